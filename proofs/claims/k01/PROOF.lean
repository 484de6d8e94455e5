import PyProof.Rows.All
import HandS.Exc
import HandS.ExcOwn
import HandS.ExcCtx
import HandS.HotCalls
import HandS.RaiseFrom
import HandS.SuiteRaise
import HandS.TryOnly
import HandS.WordsExc
import Wide.All
import OpenK.AllK
import Wide.FinOn
import HandS.ForMost
import HandS.IsInst
import HandS.Lambda
import KE.KDflt
import HandS.TupMul
import HandS.Wide
import HandS.TupAny
import HandS.Style
import HandS.List
import PyProof.WalkInts
import PyProof.WalksMore
import HandS.CallSlots
import KE.GoesEnum
import HandS.Property
import HandS.MakeKwOnly
import HandS.ClsMeth
import KE.KFmtOwn
import PyProof.InstNe
import HandS.FStr
import HandS.Star
import HandS.Conv
import HandS.MethStar
import KE.KSuper
import KE.KExcSuper
import KE.KExcInit
import KE.KTryMore
import HandS.ExcInit
import HandS.ExcField
import HandS.ExcIs
import HandS.HeadWalk
import HandS.ExcValue
import HandS.Deep
import KE.DataMinMax
import KE.SortData
import KE.KExcIs
import HandS.DictComp
import HandS.More
import HandS.Defaults
import HandS.HeadHook2
import HandS.HeadEnd
import HandS.Head0
import HandS.Head1
import HandS.Head2
import HandS.Head3
import HandS.MakeKw
import HandS.HeadHook4
import HandS.HeadHook3
import PySem.Challenge.RW_middlehold_k01_errors_and_their_families
set_option Elab.async false
set_option linter.all false
set_option maxRecDepth 100000
set_option maxHeartbeats 4000000
namespace EG
open PySem PySem.Spec PyProof.Rows L2
/-! exceptions whose context is None, and others -/
theorem xe_weak {X : Cx} {W : WX} {u : Value} {s' : Shared} (x : L2N.XE X W u s') : L2.XE X W u s' := by
  obtain ⟨a, B, sI, pins, σ, H, cls, d, e, I, nb, up, sky, na, os, ag, w⟩ := x
  refine ⟨a, B, sI, pins, σ, H, cls, d, e, I, nb, up, ?_, na, os, ag, w⟩
  rcases sky with ⟨hB, hn, hl, oe, vs, he, hz, hd, h1⟩ | fl | hd
  · exact .inl ⟨hB, hn, hl, oe, vs, he, hz.zc, hd, h1⟩
  · exact .inr (.inl (L2H.flyingZ_imp (fun o z => z.zc) fl))
  · exact .inr (.inr ⟨hd.1, hd.2.1, hd.2.2.1, L2H.tracedZ_imp (fun o z => z.zc) hd.2.2.2⟩)
theorem takes_weak {X : Cx} {W : WX} (t : L2.Takes X W) : L2N.Takes X W := fun u s' x => t u s' (xe_weak x)
end EG
namespace EG
open PySem L2

/-! plain data, what a local holds, the store -/
inductive D where
  | non | bl (b : Bool) | int (i : Int) | str (s : Str)
  | lst (xs : List D) | tup (xs : List D)
  | obj (c : Nat) (fs : List (Str × D))
  | cell (n : Nat)
  | scr (ns : List Int)
  | dK (kvs : List (Key × D)) | dT (kvs : List (List Key × D))
  | err (c : Nat) (fs : List (Str × D)) | clo (n : Nat) (cl : List (Str × Addr)) | cls (c : Nat)
instance : Inhabited D := ⟨.non⟩
inductive Own where
  | out | slot (i : Nat) | cell (n : Nat) | cap
inductive Cell where
  | lst (xs : List D) | obj (c : Nat) (fs : List (Str × D)) | dK (kvs : List (Key × D)) | dT (kvs : List (List Key × D)) | cap (o : Option (List (Str × Addr) × List (Str × D))) | tbl (P : Addr) (q : Str)
/-- what is owned, as data -/
def Cell.toD : Cell → D
  | .lst xs => .lst xs
  | .obj c fs => .obj c fs
  | .dK kvs => .dK kvs
  | .dT kvs => .dT kvs
  | .cap _ => .err 0 []
  | .tbl _ _ => .err 0 []
def Cell.isCap : Cell → Bool
  | .cap _ => true
  | _ => false
abbrev Mu := List Cell
inductive Slot where
  | no | v (d : D) | own (c : Cell)
abbrev Env := List Slot

structure Wd where
  K : PySem.W.Frag
  ca : Nat → Addr
  lamB : Nat → Bool → Arguments → Expr → Scope → Bool := fun _ _ _ _ _ => false
structure Ws where
  ρ : List Addr
  Ow : Addr → Option Own

def big : Nat := 16777216
theorem big_le : big ≤ sizeLine := by rw [sizeLine_eq]; decide

/-- the script: read alone -/
def LstK (K : PySem.W.Frag) (a : Addr) (xs : List V) : Prop := SqL K (fun _ => none) a xs
/-- a tuple of the written part -/
def TupK (K : PySem.W.Frag) (a : Addr) (xs : List V) : Prop := SqT K (fun _ => none) a xs
theorem LstK.seq {K : PySem.W.Frag} {a : Addr} {xs : List V} {H : Hp} (h : LstK K a xs) : SqL K H a xs := by
  rcases h with (h | ⟨o, h⟩) | h
  · cases h
  · cases h
  · exact .inr h
theorem TupK.seq {K : PySem.W.Frag} {a : Addr} {xs : List V} {H : Hp} (h : TupK K a xs) : SqT K H a xs := by
  rcases h with (h | ⟨o, h⟩) | h
  · cases h
  · cases h
  · exact .inr h
/-- a caught exception, or one that is held: its class, its dict -/
def XdO (cls : Value) (dd a : Addr) : HO := .ext fun h => ∃ (oe : Obj) (vs : Array Value), h.get? a = some oe ∧ oe.cls = cls ∧ oe.dict = some dd ∧ oe.data = .fields vs
/-- a lambda's function object -/
def FnL (f : Addr) (o : Obj) : HO := .ext fun h => h.get? f = some o
/-- a cell of a def's frame, while it is lent -/
def frzO (c : Addr) (o : Obj) : HO := .frz o (.ext fun h => h.get? c = some o)
mutual
inductive RepV (W : Wd) (S : Ws) (H : Hp) : V → D → Prop where
  | non : RepV W S H .non .non
  | bl (b : Bool) : RepV W S H (.bl b) (.bl b)
  | int (i : Int) : RepV W S H (.int i) (.int i)
  | str (s : Str) : s.length ≤ big → RepV W S H (.str s) (.str s)
  | lst {a : Addr} {vs : List V} {ds : List D} : H a = some (.lst vs) → S.Ow a = none → vs.length ≤ big → RepVs W S H vs ds → RepV W S H (.ref a) (.lst ds)
  | tup {a : Addr} {vs : List V} {ds : List D} : H a = some (.tup vs) → S.Ow a = none → vs.length ≤ big → RepVs W S H vs ds → RepV W S H (.ref a) (.tup ds)
  | tupK {a : Addr} {vs : List V} {ds : List D} : TupK W.K a vs → vs.length ≤ big → RepVs W S H vs ds → RepV W S H (.ref a) (.tup ds)
  | obj {a dx : Addr} {c : Nat} {vs : List (Str × V)} {fs : List (Str × D)} : H a = some (.ins (W.ca c) dx vs) → S.Ow a = none → RepFs W S H vs fs → RepV W S H (.ref a) (.obj c fs)
  | cell {a : Addr} {n : Nat} : S.ρ[n]? = some a → S.Ow a = some (.cell n) → RepV W S H (.ref a) (.cell n)
  | scr {a : Addr} {u : HO} {ns : List Int} : H a = some u → S.Ow a = none → (u = .lst (ns.map V.int) ∨ ∃ o, u = .frz o (.lst (ns.map V.int))) → ns.length ≤ big → RepV W S H (.ref a) (.scr ns)
  | scrK {a : Addr} {ns : List Int} : LstK W.K a (ns.map V.int) → ns.length ≤ big → RepV W S H (.ref a) (.scr ns)
  | dK {a : Addr} {vs : List (Key × V)} {ds : List (Key × D)} : H a = some (.dK vs) → S.Ow a = none → vs.length ≤ big → RepKs W S H vs ds → RepV W S H (.ref a) (.dK ds)
  | dT {a : Addr} {vs : List (List Key × V)} {ds : List (List Key × D)} : H a = some (.dT vs) → S.Ow a = none → vs.length ≤ big → RepTs W S H vs ds → RepV W S H (.ref a) (.dT ds)
  | cls {c : Nat} : RepV W S H (.ref (W.ca c)) (.cls c)
  | err {a dd : Addr} {c : Nat} {vs : List (Str × V)} {fs : List (Str × D)} : H a = some (XdO (.ref (W.ca c)) dd a) → S.Ow a = none → H dd = some (.xd vs) → S.Ow dd = none → RepFs W S H vs fs → RepV W S H (.ref a) (.err c fs)
  | clo {f c' : Addr} {n : Nat} {cl : List (Str × Addr)} {q : Str} {params : Arguments} {body : Expr} {scope : Scope} {pm ctv doc : Value} : H f = some (FnL f (PySem.W.kdv_obj "<lambda>" q params (.expr body) scope (cloFrom cl scope.names []) .none doc pm c' ctv)) → S.Ow f = none → H c' = some (LamX.CodeO c' q) → S.Ow c' = none → W.lamB n false params body scope = true → (∀ y ∈ scope.names, y.2 = .free → ∃ c, cl.lookup y.1 = some c) → RepV W S H (.ref f) (.clo n cl)
  | clo1 {f c' T : Addr} {n : Nat} {cl : List (Str × Addr)} {q : Str} {params : Arguments} {body : Expr} {scope : Scope} {pm ctv doc : Value} : H f = some (FnL f (PySem.W.kdv_obj "<lambda>" q params (.expr body) scope (cloFrom cl scope.names []) (.ref T) doc pm c' ctv)) → S.Ow f = none → H c' = some (LamX.CodeO c' q) → S.Ow c' = none → H T = some (.tup [.int 0]) → S.Ow T = none → W.lamB n true params body scope = true → (∀ y ∈ scope.names, y.2 = .free → ∃ c, cl.lookup y.1 = some c) → RepV W S H (.ref f) (.clo n cl)
inductive RepVs (W : Wd) (S : Ws) (H : Hp) : List V → List D → Prop where
  | nil : RepVs W S H [] []
  | cons {v : V} {d : D} {vs : List V} {ds : List D} : RepV W S H v d → RepVs W S H vs ds → RepVs W S H (v :: vs) (d :: ds)
inductive RepFs (W : Wd) (S : Ws) (H : Hp) : List (Str × V) → List (Str × D) → Prop where
  | nil : RepFs W S H [] []
  | cons {f : Str} {v : V} {d : D} {vs : List (Str × V)} {fs : List (Str × D)} : RepV W S H v d → RepFs W S H vs fs → RepFs W S H ((f, v) :: vs) ((f, d) :: fs)
inductive RepKs (W : Wd) (S : Ws) (H : Hp) : List (Key × V) → List (Key × D) → Prop where
  | nil : RepKs W S H [] []
  | cons {f : Key} {v : V} {d : D} {vs : List (Key × V)} {fs : List (Key × D)} : RepV W S H v d → RepKs W S H vs fs → RepKs W S H ((f, v) :: vs) ((f, d) :: fs)
inductive RepTs (W : Wd) (S : Ws) (H : Hp) : List (List Key × V) → List (List Key × D) → Prop where
  | nil : RepTs W S H [] []
  | cons {f : List Key} {v : V} {d : D} {vs : List (List Key × V)} {fs : List (List Key × D)} : RepV W S H v d → RepTs W S H vs fs → RepTs W S H ((f, v) :: vs) ((f, d) :: fs)
end

/-- later: data stays, the owned of the kinds k stay, the cells stay cells -/
structure Lt (k : Own → Prop) (S : Ws) (H : Hp) (S' : Ws) (H' : Hp) : Prop where
  dat : ∀ a o, S.Ow a = none → H a = some o → S'.Ow a = none ∧ H' a = some o
  own : ∀ a w, S.Ow a = some w → k w → S'.Ow a = some w ∧ H' a = H a
  cel : ∀ (n : Nat) a, S.ρ[n]? = some a → S.Ow a = some (.cell n) → S'.ρ[n]? = some a ∧ S'.Ow a = some (.cell n)
  mem : ∀ a, H a ≠ none → H' a ≠ none
def kE : Own → Prop | .cell _ => False | _ => True
def kS : Own → Prop | .out => True | .cap => True | _ => False
abbrev LtE := Lt kE
abbrev LtS := Lt kS
theorem Lt.refl {k : Own → Prop} {S : Ws} {H : Hp} : Lt k S H S H := ⟨fun _ _ a b => ⟨a, b⟩, fun _ _ a _ => ⟨a, rfl⟩, fun _ _ a b => ⟨a, b⟩, fun _ a => a⟩
theorem Lt.trans {k : Own → Prop} {S S1 S2 : Ws} {H H1 H2 : Hp} (a : Lt k S H S1 H1) (b : Lt k S1 H1 S2 H2) : Lt k S H S2 H2 :=
  ⟨fun x o p q => let ⟨p1, q1⟩ := a.dat x o p q; b.dat x o p1 q1,
   fun x w p q => let ⟨p1, q1⟩ := a.own x w p q; let ⟨p2, q2⟩ := b.own x w p1 q; ⟨p2, q2.trans q1⟩,
   fun n x p q => let ⟨p1, q1⟩ := a.cel n x p q; b.cel n x p1 q1, fun x p => b.mem x (a.mem x p)⟩
theorem LtE.toS {S S1 : Ws} {H H1 : Hp} (a : LtE S H S1 H1) : LtS S H S1 H1 :=
  ⟨a.dat, fun x w p q => a.own x w p (by cases w <;> first | trivial | exact q.elim), a.cel, a.mem⟩

section
variable {W : Wd} {S S' : Ws} {H H' : Hp}
mutual
theorem RepV.mono (hd : ∀ a o, S.Ow a = none → H a = some o → S'.Ow a = none ∧ H' a = some o) (hc : ∀ (n : Nat) a, S.ρ[n]? = some a → S.Ow a = some (.cell n) → S'.ρ[n]? = some a ∧ S'.Ow a = some (.cell n)) :
    ∀ {v : V} {d : D}, RepV W S H v d → RepV W S' H' v d
  | _, _, .non => .non
  | _, _, .bl b => .bl b
  | _, _, .int i => .int i
  | _, _, .str s h => .str s h
  | _, _, .lst h1 h2 h3 h4 => .lst (hd _ _ h2 h1).2 (hd _ _ h2 h1).1 h3 (RepVs.mono hd hc h4)
  | _, _, .tup h1 h2 h3 h4 => .tup (hd _ _ h2 h1).2 (hd _ _ h2 h1).1 h3 (RepVs.mono hd hc h4)
  | _, _, .tupK h1 h3 h4 => .tupK h1 h3 (RepVs.mono hd hc h4)
  | _, _, .obj h1 h2 h3 => .obj (hd _ _ h2 h1).2 (hd _ _ h2 h1).1 (RepFs.mono hd hc h3)
  | _, _, .cell h1 h2 => .cell (hc _ _ h1 h2).1 (hc _ _ h1 h2).2
  | _, _, .scr h1 h2 h3 h4 => .scr (hd _ _ h2 h1).2 (hd _ _ h2 h1).1 h3 h4
  | _, _, .scrK h1 h2 => .scrK h1 h2
  | _, _, .dK h1 h2 h3 h4 => .dK (hd _ _ h2 h1).2 (hd _ _ h2 h1).1 h3 (RepKs.mono hd hc h4)
  | _, _, .dT h1 h2 h3 h4 => .dT (hd _ _ h2 h1).2 (hd _ _ h2 h1).1 h3 (RepTs.mono hd hc h4)
  | _, _, .cls => .cls
  | _, _, .err h1 h2 h3 h4 h5 => .err (hd _ _ h2 h1).2 (hd _ _ h2 h1).1 (hd _ _ h4 h3).2 (hd _ _ h4 h3).1 (RepFs.mono hd hc h5)
  | _, _, .clo h1 h2 h3 h4 h5 h6 => .clo (hd _ _ h2 h1).2 (hd _ _ h2 h1).1 (hd _ _ h4 h3).2 (hd _ _ h4 h3).1 h5 h6
  | _, _, .clo1 h1 h2 h3 h4 h5 h6 h7 h8 => .clo1 (hd _ _ h2 h1).2 (hd _ _ h2 h1).1 (hd _ _ h4 h3).2 (hd _ _ h4 h3).1 (hd _ _ h6 h5).2 (hd _ _ h6 h5).1 h7 h8
theorem RepVs.mono (hd : ∀ a o, S.Ow a = none → H a = some o → S'.Ow a = none ∧ H' a = some o) (hc : ∀ (n : Nat) a, S.ρ[n]? = some a → S.Ow a = some (.cell n) → S'.ρ[n]? = some a ∧ S'.Ow a = some (.cell n)) :
    ∀ {v : List V} {d : List D}, RepVs W S H v d → RepVs W S' H' v d
  | _, _, .nil => .nil
  | _, _, .cons h r => .cons (RepV.mono hd hc h) (RepVs.mono hd hc r)
theorem RepFs.mono (hd : ∀ a o, S.Ow a = none → H a = some o → S'.Ow a = none ∧ H' a = some o) (hc : ∀ (n : Nat) a, S.ρ[n]? = some a → S.Ow a = some (.cell n) → S'.ρ[n]? = some a ∧ S'.Ow a = some (.cell n)) :
    ∀ {v : List (Str × V)} {d : List (Str × D)}, RepFs W S H v d → RepFs W S' H' v d
  | _, _, .nil => .nil
  | _, _, .cons h r => .cons (RepV.mono hd hc h) (RepFs.mono hd hc r)
theorem RepKs.mono (hd : ∀ a o, S.Ow a = none → H a = some o → S'.Ow a = none ∧ H' a = some o) (hc : ∀ (n : Nat) a, S.ρ[n]? = some a → S.Ow a = some (.cell n) → S'.ρ[n]? = some a ∧ S'.Ow a = some (.cell n)) :
    ∀ {v : List (Key × V)} {d : List (Key × D)}, RepKs W S H v d → RepKs W S' H' v d
  | _, _, .nil => .nil
  | _, _, .cons h r => .cons (RepV.mono hd hc h) (RepKs.mono hd hc r)
theorem RepTs.mono (hd : ∀ a o, S.Ow a = none → H a = some o → S'.Ow a = none ∧ H' a = some o) (hc : ∀ (n : Nat) a, S.ρ[n]? = some a → S.Ow a = some (.cell n) → S'.ρ[n]? = some a ∧ S'.Ow a = some (.cell n)) :
    ∀ {v : List (List Key × V)} {d : List (List Key × D)}, RepTs W S H v d → RepTs W S' H' v d
  | _, _, .nil => .nil
  | _, _, .cons h r => .cons (RepV.mono hd hc h) (RepTs.mono hd hc r)
end
theorem RepV.later {k : Own → Prop} {v : V} {d : D} (h : RepV W S H v d) (l : Lt k S H S' H') : RepV W S' H' v d := h.mono l.dat l.cel
theorem RepVs.later {k : Own → Prop} {v : List V} {d : List D} (h : RepVs W S H v d) (l : Lt k S H S' H') : RepVs W S' H' v d := h.mono l.dat l.cel
theorem RepFs.later {k : Own → Prop} {v : List (Str × V)} {d : List (Str × D)} (h : RepFs W S H v d) (l : Lt k S H S' H') : RepFs W S' H' v d := h.mono l.dat l.cel
theorem RepKs.later {k : Own → Prop} {v : List (Key × V)} {d : List (Key × D)} (h : RepKs W S H v d) (l : Lt k S H S' H') : RepKs W S' H' v d := h.mono l.dat l.cel
theorem RepTs.later {k : Own → Prop} {v : List (List Key × V)} {d : List (List Key × D)} (h : RepTs W S H v d) (l : Lt k S H S' H') : RepTs W S' H' v d := h.mono l.dat l.cel
theorem RepVs.length {vs : List V} {ds : List D} (h : RepVs W S H vs ds) : vs.length = ds.length := by
  induction vs generalizing ds with
  | nil => cases h; rfl
  | cons v vs ih => cases h with | cons _ r => simp [ih r]
theorem RepVs.get : ∀ {vs : List V} {ds : List D} {i : Nat} {d : D}, RepVs W S H vs ds → ds[i]? = some d → ∃ v, vs[i]? = some v ∧ RepV W S H v d
  | _, _, _, _, .nil, e => by simp at e
  | _, _, 0, _, .cons r _, e => by simp at e; subst e; exact ⟨_, rfl, r⟩
  | _, _, i + 1, x, .cons _ t, e => by
    obtain ⟨u, h1, h2⟩ := RepVs.get (i := i) (d := x) t (by simpa using e)
    exact ⟨u, by simpa using h1, h2⟩
theorem RepVs.get' : ∀ {vs : List V} {ds : List D} {i : Nat} {v : V}, RepVs W S H vs ds → vs[i]? = some v → ∃ d, ds[i]? = some d ∧ RepV W S H v d
  | _, _, _, _, .nil, e => by simp at e
  | _, _, 0, _, .cons r _, e => by simp at e; subst e; exact ⟨_, rfl, r⟩
  | _, _, i + 1, x, .cons _ t, e => by
    obtain ⟨u, h1, h2⟩ := RepVs.get' (i := i) (v := x) t (by simpa using e)
    exact ⟨u, by simpa using h1, h2⟩
theorem RepVs.append : ∀ {vs ws : List V} {ds es : List D}, RepVs W S H vs ds → RepVs W S H ws es → RepVs W S H (vs ++ ws) (ds ++ es)
  | _, _, _, _, .nil, q => q
  | _, _, _, _, .cons r t, q => .cons r (RepVs.append t q)
theorem RepVs.one {v : V} {d : D} (h : RepV W S H v d) : RepVs W S H [v] [d] := .cons h .nil
theorem RepVs.take : ∀ {vs : List V} {ds : List D} (n : Nat), RepVs W S H vs ds → RepVs W S H (vs.take n) (ds.take n)
  | _, _, 0, _ => by simp; exact .nil
  | _, _, _ + 1, .nil => by simp; exact .nil
  | _, _, n + 1, .cons r t => .cons r (RepVs.take n t)
theorem RepVs.drop : ∀ {vs : List V} {ds : List D} (n : Nat), RepVs W S H vs ds → RepVs W S H (vs.drop n) (ds.drop n)
  | _, _, 0, h => h
  | _, _, _ + 1, .nil => by simp; exact .nil
  | _, _, n + 1, .cons r t => RepVs.drop n t
theorem RepVs.set {v : V} {d : D} (r : RepV W S H v d) : ∀ {vs : List V} {ds : List D} (i : Nat), RepVs W S H vs ds → RepVs W S H (vs.set i v) (ds.set i d)
  | _, _, _, .nil => .nil
  | _, _, 0, .cons _ t => .cons r t
  | _, _, i + 1, .cons q t => .cons q (RepVs.set r i t)
theorem RepFs.lookup : ∀ {vs : List (Str × V)} {fs : List (Str × D)} {f : Str} {d : D}, RepFs W S H vs fs → fs.lookup f = some d → ∃ v, vs.lookup f = some v ∧ RepV W S H v d
  | _, _, _, _, .nil, e => by simp at e
  | _, _, f, d, .cons (f := g) r t, e => by
    simp only [List.lookup_cons] at e ⊢
    split at e
    · cases e; exact ⟨_, rfl, r⟩
    · exact RepFs.lookup t e
end

/-! the state -/
def CellRep (W : Wd) (S : Ws) (H : Hp) (a : Addr) : Cell → Prop
  | .lst ds => ∃ vs, H a = some (.lst vs) ∧ vs.length ≤ big ∧ RepVs W S H vs ds
  | .obj c fs => ∃ dx vs, H a = some (.ins (W.ca c) dx vs) ∧ RepFs W S H vs fs
  | .dK ds => ∃ vs, H a = some (.dK vs) ∧ vs.length ≤ big ∧ RepKs W S H vs ds
  | .dT ds => ∃ vs, H a = some (.dT vs) ∧ vs.length ≤ big ∧ RepTs W S H vs ds
  | .cap _ => False
  | .tbl P q => a = P ∧ (∃ n : Nat, S.ρ[n]? = some a ∧ S.Ow a = some (.cell n)) ∧ ∃ ps : Array Value, H a = some (.tbl ps) ∧ TriplesOk ps.toList ∧ ∀ (pos : Pos) (cv : Value), codeAmong pos ps.toList = some cv → ∃ c, cv = .ref c ∧ H c = some (LamX.CodeO c q) ∧ S.Ow c = none
/-- the lent cells cl stand, and hold what the store says -/
def CapOk (W : Wd) (S : Ws) (H : Hp) (cl : List (Str × Addr)) (ds : List (Str × D)) : Prop :=
  (∀ x y c, cl.lookup x = some c → cl.lookup y = some c → x = y) ∧ (∀ y c, cl.lookup y = some c → S.Ow c = some .cap ∧ ∃ (oc : Obj) (v : Option Value), H c = some (frzO c oc) ∧ oc.data = .cell v) ∧
  ∀ y d, ds.lookup y = some d → ∃ (c : Addr) (oc : Obj) (u : Value) (v : V), cl.lookup y = some c ∧ H c = some (frzO c oc) ∧ oc.data = .cell (some u) ∧ RelV v u ∧ RepV W S H v d
structure SgX (W : Wd) (S : Ws) (H : Hp) (μ : Mu) : Prop where
  cap : ∀ cl ds, μ[0]? = some (.cap (some (cl, ds))) → CapOk W S H cl ds
theorem SgX.keep {W : Wd} {S S' : Ws} {H H' : Hp} {μ μ' : Mu} (g : SgX W S H μ) (hd : ∀ a o, S.Ow a = none → H a = some o → S'.Ow a = none ∧ H' a = some o) (hc : ∀ (n : Nat) a, S.ρ[n]? = some a → S.Ow a = some (.cell n) → S'.ρ[n]? = some a ∧ S'.Ow a = some (.cell n))
    (hp : ∀ a w, S.Ow a = some w → w = .cap → S'.Ow a = some w ∧ H' a = H a) (h0 : ∀ z, μ'[0]? = some (.cap (some z)) → μ[0]? = some (.cap (some z))) : SgX W S' H' μ' where
  cap := fun cl ds e => by
    obtain ⟨g1, g2, g3⟩ := g.cap cl ds (h0 _ e)
    refine ⟨g1, fun y c l => ?_, fun y d l => ?_⟩
    · obtain ⟨e2, oc, v, e3, e4⟩ := g2 y c l
      obtain ⟨q1, q2⟩ := hp c _ e2 rfl
      exact ⟨q1, oc, v, q2.trans e3, e4⟩
    · obtain ⟨c, oc, u, v, e1, e3, e4, e5, e6⟩ := g3 y d l
      obtain ⟨q1, q2⟩ := hp c _ (g2 y c e1).1 rfl
      exact ⟨c, oc, u, v, e1, q2.trans e3, e4, e5, e6.mono hd hc⟩
structure Sg (W : Wd) (S : Ws) (H : Hp) (μ : Mu) : Prop where
  wf : ∀ a w, S.Ow a = some w → ∃ u, H a = some u
  len : S.ρ.length = μ.length
  cells : ∀ (n : Nat) c, μ[n]? = some c → c.isCap = false → ∃ a, S.ρ[n]? = some a ∧ S.Ow a = some (.cell n) ∧ CellRep W S H a c
  ext : SgX W S H μ
def SlotRep (W : Wd) (S : Ws) (H : Hp) (i : Nat) (sv : Option (Option V)) : Slot → Prop
  | .no => True
  | .v d => ∃ v, sv = some (some v) ∧ RepV W S H v d
  | .own c => ∃ a, sv = some (some (.ref a)) ∧ S.Ow a = some (.slot i) ∧ CellRep W S H a c
structure EnvOk (W : Wd) (S : Ws) (H : Hp) (σ : St) (env : Env) : Prop where
  len : env.length = σ.length
  at_ : ∀ (i : Nat) sl, env[i]? = some sl → SlotRep W S H i σ[i]? sl
section
variable {W : Wd} {S S' : Ws} {H H' : Hp} {σ : St} {env : Env} {μ : Mu}
theorem CellRep.later {k : Own → Prop} {a : Addr} {c : Cell} (h : CellRep W S H a c) (l : Lt k S H S' H') (e : H' a = H a) : CellRep W S' H' a c := by
  cases c with
  | lst ds => obtain ⟨vs, e1, e2, r⟩ := h; exact ⟨vs, e.trans e1, e2, r.later l⟩
  | obj c fs => obtain ⟨dx, vs, e1, r⟩ := h; exact ⟨dx, vs, e.trans e1, r.later l⟩
  | dK ds => obtain ⟨vs, e1, e2, r⟩ := h; exact ⟨vs, e.trans e1, e2, r.later l⟩
  | dT ds => obtain ⟨vs, e1, e2, r⟩ := h; exact ⟨vs, e.trans e1, e2, r.later l⟩
  | cap _ => exact h.elim
  | tbl P q => obtain ⟨e0, ⟨n, n1, n2⟩, ps, e1, e2, e3⟩ := h; exact ⟨e0, ⟨n, l.cel n a n1 n2⟩, ps, e.trans e1, e2, fun pos cv z => let ⟨c, z1, z2, z3⟩ := e3 pos cv z; ⟨c, z1, (l.dat c _ z3 z2).2, (l.dat c _ z3 z2).1⟩⟩
theorem CellRep.mono {a : Addr} {c : Cell} (hd : ∀ a o, S.Ow a = none → H a = some o → S'.Ow a = none ∧ H' a = some o) (hc : ∀ (n : Nat) a, S.ρ[n]? = some a → S.Ow a = some (.cell n) → S'.ρ[n]? = some a ∧ S'.Ow a = some (.cell n)) (h : CellRep W S H a c) (e : H' a = H a) : CellRep W S' H' a c := by
  cases c with
  | lst ds => obtain ⟨vs, e1, e2, r⟩ := h; exact ⟨vs, e.trans e1, e2, r.mono hd hc⟩
  | obj c fs => obtain ⟨dx, vs, e1, r⟩ := h; exact ⟨dx, vs, e.trans e1, r.mono hd hc⟩
  | dK ds => obtain ⟨vs, e1, e2, r⟩ := h; exact ⟨vs, e.trans e1, e2, r.mono hd hc⟩
  | dT ds => obtain ⟨vs, e1, e2, r⟩ := h; exact ⟨vs, e.trans e1, e2, r.mono hd hc⟩
  | cap _ => exact h.elim
  | tbl P q => obtain ⟨e0, ⟨n, n1, n2⟩, ps, e1, e2, e3⟩ := h; exact ⟨e0, ⟨n, hc n a n1 n2⟩, ps, e.trans e1, e2, fun pos cv z => let ⟨c, z1, z2, z3⟩ := e3 pos cv z; ⟨c, z1, (hd c _ z3 z2).2, (hd c _ z3 z2).1⟩⟩
/-- what is owned becomes data -/
theorem CellRep.toV {a : Addr} {c : Cell} (h : CellRep W S H a c) (ho : S.Ow a = none) : RepV W S H (.ref a) c.toD := by
  cases c with
  | lst ds => obtain ⟨vs, e1, e2, r⟩ := h; exact .lst e1 ho e2 r
  | obj c fs => obtain ⟨dx, vs, e1, r⟩ := h; exact .obj e1 ho r
  | dK ds => obtain ⟨vs, e1, e2, r⟩ := h; exact .dK e1 ho e2 r
  | dT ds => obtain ⟨vs, e1, e2, r⟩ := h; exact .dT e1 ho e2 r
  | cap _ => exact h.elim
  | tbl P q => obtain ⟨_, ⟨n, _, n2⟩, _⟩ := h; rw [ho] at n2; cases n2
theorem SlotRep.later {k : Own → Prop} (hk : ∀ j, k (.slot j)) {i : Nat} {sv : Option (Option V)} {sl : Slot} (h : SlotRep W S H i sv sl) (l : Lt k S H S' H') : SlotRep W S' H' i sv sl := by
  cases sl with
  | no => trivial
  | v d => obtain ⟨v, e, r⟩ := h; exact ⟨v, e, r.later l⟩
  | own c =>
    obtain ⟨a, e, o, r⟩ := h
    obtain ⟨o', h'⟩ := l.own a _ o (hk i)
    exact ⟨a, e, o', r.later l h'⟩
theorem SlotRep.laterE {i : Nat} {sv : Option (Option V)} {sl : Slot} (h : SlotRep W S H i sv sl) (l : LtE S H S' H') : SlotRep W S' H' i sv sl := h.later (fun _ => trivial) l
theorem EnvOk.later {k : Own → Prop} (hk : ∀ j, k (.slot j)) (h : EnvOk W S H σ env) (l : Lt k S H S' H') : EnvOk W S' H' σ env := ⟨h.len, fun i sl e => (h.at_ i sl e).later hk l⟩
theorem EnvOk.laterE (h : EnvOk W S H σ env) (l : LtE S H S' H') : EnvOk W S' H' σ env := ⟨h.len, fun i sl e => (h.at_ i sl e).laterE l⟩
/-- what is fresh is nobody's -/
theorem Sg.fresh (g : Sg W S H μ) {p : Addr} (hp : H p = none) : S.Ow p = none := by
  cases e : S.Ow p with
  | none => rfl
  | some w => obtain ⟨u, q⟩ := g.wf p w e; rw [hp] at q; cases q
theorem upd_mem {H : Hp} {p : Addr} {o : HO} : ∀ a, H a ≠ none → upd H p o a ≠ none := fun a h => by
  by_cases e : a = p
  · subst e; rw [upd_same]; exact fun z => nomatch z
  · rw [upd_ne e]; exact h
theorem lt_upd {k : Own → Prop} {p : Addr} {o : HO} (hp : H p = none) (hw : ∀ a w, S.Ow a = some w → ∃ u, H a = some u) : Lt k S H S (upd H p o) :=
  ⟨fun a u q e => ⟨q, by rw [upd_ne (ne_of_none e hp)]; exact e⟩,
   fun a w q _ => by obtain ⟨u, e⟩ := hw a w q; exact ⟨q, by rw [upd_ne (ne_of_none e hp)]⟩, fun n a e q => ⟨e, q⟩, upd_mem⟩
theorem Sg.upd (g : Sg W S H μ) {p : Addr} {o : HO} (hp : H p = none) : Sg W S (upd H p o) μ where
  wf := fun a w e => by
    obtain ⟨u, q⟩ := g.wf a w e
    exact ⟨u, by rw [upd_ne (ne_of_none q hp)]; exact q⟩
  len := g.len
  cells := fun n c e hi => by
    obtain ⟨a, e1, e2, r⟩ := g.cells n c e hi
    obtain ⟨u, q⟩ := g.wf a _ e2
    exact ⟨a, e1, e2, r.later (lt_upd (k := kE) hp g.wf) (by rw [upd_ne (ne_of_none q hp)])⟩
  ext := g.ext.keep (lt_upd (k := kE) (o := o) hp g.wf).dat (lt_upd (k := kE) (o := o) hp g.wf).cel (fun a w e _ => by
    obtain ⟨u, q⟩ := g.wf a _ e
    exact ⟨e, by rw [upd_ne (ne_of_none q hp)]⟩) fun _ z => z
/-- the owner of p changes from or to out, none, a slot -/
def Ws.set (S : Ws) (p : Addr) (w : Option Own) : Ws := { S with Ow := fun a => if a = p then w else S.Ow a }
theorem Ws.set_same {p : Addr} {w : Option Own} : (S.set p w).Ow p = w := by simp [Ws.set]
theorem Ws.set_ne {p a : Addr} {w : Option Own} (h : a ≠ p) : (S.set p w).Ow a = S.Ow a := by simp [Ws.set, h]
/-- p is owned (by no cell); its owner changes -/
theorem lt_set {k : Own → Prop} {p : Addr} {w0 : Own} {w : Option Own} (hp : S.Ow p = some w0) (hk : ¬ k w0) (hc : ∀ n, w0 ≠ .cell n) : Lt k S H (S.set p w) H where
  dat := fun a o e q => by
    have : a ≠ p := fun z => by rw [z, hp] at e; cases e
    rw [Ws.set_ne this]; exact ⟨e, q⟩
  own := fun a x e q => by
    have : a ≠ p := fun z => by rw [z, hp] at e; cases e; exact hk q
    rw [Ws.set_ne this]; exact ⟨e, rfl⟩
  cel := fun n a e q => by
    have : a ≠ p := fun z => by rw [z, hp] at q; cases q; exact hc n rfl
    rw [Ws.set_ne this]; exact ⟨e, q⟩
  mem := fun _ h => h
theorem Sg.set (g : Sg W S H μ) {p : Addr} {w0 : Own} {w : Option Own} (hp : S.Ow p = some w0) (hc : ∀ n, w0 ≠ .cell n) (hx : w0 ≠ .cap := by exact fun z => nomatch z) : Sg W (S.set p w) H μ where
  wf := fun a x e => by
    by_cases h : a = p
    · subst h; exact g.wf a _ hp
    · rw [Ws.set_ne h] at e; exact g.wf a x e
  len := g.len
  cells := fun n c e hi => by
    obtain ⟨a, e1, e2, r⟩ := g.cells n c e hi
    have : a ≠ p := fun z => by rw [z, hp] at e2; cases e2; exact hc n rfl
    exact ⟨a, e1, by rw [Ws.set_ne this]; exact e2, r.later (lt_set (k := fun _ => False) hp (fun x => x) hc) rfl⟩
  ext := g.ext.keep (lt_set (k := fun _ => False) (w := w) (H := H) hp (fun x => x) hc).dat (lt_set (k := fun _ => False) (w := w) (H := H) hp (fun x => x) hc).cel (fun a x e h => by
    have : a ≠ p := fun z => by
      rw [z, hp] at e
      cases e
      exact hx h
    exact ⟨by rw [Ws.set_ne this]; exact e, rfl⟩) fun _ z => z
/-- a fresh p gets an owner: nothing that stood before feels it -/
theorem lt_new {k : Own → Prop} {p : Addr} {o : HO} {w : Option Own} (hp : H p = none) (hw : ∀ a w, S.Ow a = some w → ∃ u, H a = some u) : Lt k S H (S.set p w) (L2.upd H p o) where
  dat := fun a u q e => by
    have : a ≠ p := ne_of_none e hp
    rw [Ws.set_ne this, upd_ne this]; exact ⟨q, e⟩
  own := fun a x q _ => by
    obtain ⟨u, e⟩ := hw a x q
    have : a ≠ p := ne_of_none e hp
    rw [Ws.set_ne this, upd_ne this]; exact ⟨q, rfl⟩
  cel := fun n a e q => by
    obtain ⟨u, e'⟩ := hw a _ q
    have : a ≠ p := ne_of_none e' hp
    rw [Ws.set_ne this]; exact ⟨e, q⟩
  mem := upd_mem
theorem Sg.new (g : Sg W S H μ) {p : Addr} {o : HO} {w : Option Own} (hp : H p = none) : Sg W (S.set p w) (L2.upd H p o) μ where
  wf := fun a x e => by
    by_cases h : a = p
    · subst h; exact ⟨o, upd_same⟩
    · rw [Ws.set_ne h] at e
      obtain ⟨u, q⟩ := g.wf a x e
      exact ⟨u, by rw [upd_ne h]; exact q⟩
  len := g.len
  cells := fun n c e hi => by
    obtain ⟨a, e1, e2, r⟩ := g.cells n c e hi
    obtain ⟨u, q⟩ := g.wf a _ e2
    have : a ≠ p := ne_of_none q hp
    exact ⟨a, e1, by rw [Ws.set_ne this]; exact e2, r.later (lt_new (k := kE) hp g.wf) (by rw [upd_ne this])⟩
  ext := g.ext.keep (lt_new (k := kE) (o := o) (w := w) hp g.wf).dat (lt_new (k := kE) (o := o) (w := w) hp g.wf).cel (fun a x e _ => by
    obtain ⟨u, q⟩ := g.wf a _ e
    have : a ≠ p := ne_of_none q hp
    exact ⟨by rw [Ws.set_ne this]; exact e, by rw [upd_ne this]⟩) fun _ z => z
end

/-! the monad of the evaluator -/
inductive Out (α : Type) where
  | ok (a : α) | exc (c : Nat) (fs : List (Str × D))
abbrev EM (α : Type) := Mu → Option (Out α × Mu)
def pureE {α : Type} (a : α) : EM α := fun μ => some (.ok a, μ)
def failE {α : Type} : EM α := fun _ => none
def bindE {α β : Type} (m : EM α) (f : α → EM β) : EM β := fun μ => match m μ with
  | none => none
  | some (.ok a, μ') => f a μ'
  | some (.exc c fs, μ') => some (.exc c fs, μ')
def optE {α : Type} (o : Option α) : EM α := fun μ => match o with
  | some a => some (.ok a, μ)
  | none => none
def guardE {α : Type} (b : Bool) (m : EM α) : EM α := fun μ => match b with
  | true => m μ
  | false => none
end EG
namespace EG
open PySem L2

section
variable (W : Wd)
/-- what is wanted of an evaluator's result -/
def KG (S : Ws) (H : Hp) (σ : St) (Wx : WX) {α : Type} (ok : α → Ws → Hp → Prop) : Out α × Mu → Prop
  | (.ok a, μ') => ∀ S' H', LtE S H S' H' → Sg W S' H' μ' → ok a S' H'
  | (.exc c fs, μ') => ∀ S' H' dd vs, LtE S H S' H' → Sg W S' H' μ' → H' dd = some (.xd vs) → S'.Ow dd = none → RepFs W S' H' vs fs → Wx (.ref (W.ca c)) (some dd) σ H'
def tG (Wx : WX) {α : Type} (f : Env → EM α) (ok : α → Ws → Hp → Prop) (σ : St) (H : Hp) : Prop :=
  ∃ S μ env r, Sg W S H μ ∧ EnvOk W S H σ env ∧ f env μ = some r ∧ KG W S H σ Wx ok r
/-- borrowed: data, or a thing that a local owns -/
def RepB (S : Ws) (H : Hp) (v : V) (d : D) : Prop := RepV W S H v d ∨ ∃ a w c, v = .ref a ∧ d = c.toD ∧ S.Ow a = some w ∧ kE w ∧ CellRep W S H a c
inductive RepBs (S : Ws) (H : Hp) : List V → List D → Prop where
  | nil : RepBs S H [] []
  | cons {v : V} {d : D} {vs : List V} {ds : List D} : RepB W S H v d → RepBs S H vs ds → RepBs S H (v :: vs) (d :: ds)
def okV (Q : VK) : D → Ws → Hp → Prop := fun d S' H' => ∀ v, RepV W S' H' v d → Q v H'
def okB (Q : VK) : D → Ws → Hp → Prop := fun d S' H' => ∀ v, RepB W S' H' v d → Q v H'
def okVs (Q : List V → Hp → Prop) : List D → Ws → Hp → Prop := fun ds S' H' => ∀ vs, RepVs W S' H' vs ds → Q vs H'
def okBs (Q : List V → Hp → Prop) : List D → Ws → Hp → Prop := fun ds S' H' => ∀ vs, RepBs W S' H' vs ds → Q vs H'
def okT (Q : Bool → Hp → Prop) : Bool → Ws → Hp → Prop := fun b _ H' => Q b H'
/-- a new list, owned by nobody yet -/
def okL (Q : VK) (H : Hp) : List D → Ws → Hp → Prop := fun xs S' H' => ∀ p vs, H p = none → S'.Ow p = some .out → H' p = some (.lst vs) → vs.length ≤ big → RepVs W S' H' vs xs → Q (.ref p) H'
def tEv (Wx : WX) (f : Env → EM D) : TE := fun σ H Q => tG W Wx f (okV W Q) σ H
def tEvB (Wx : WX) (f : Env → EM D) : TE := fun σ H Q => tG W Wx f (okB W Q) σ H
def tEvL (Wx : WX) (f : Env → EM (List D)) : TE := fun σ H Q => tG W Wx f (okL W Q H) σ H
def tEvs (Wx : WX) (f : Env → EM (List D)) : TA := fun σ H Q => tG W Wx f (okVs W Q) σ H
def tEvBs (Wx : WX) (f : Env → EM (List D)) : TA := fun σ H Q => tG W Wx f (okBs W Q) σ H
def tEvT (Wx : WX) (f : Env → EM Bool) : TT := fun σ H Q => tG W Wx f (okT Q) σ H
end
section
variable {W : Wd} {S S' S1 : Ws} {H H' H1 : Hp} {σ : St} {env : Env} {μ : Mu} {Wx : WX} {α β : Type}
theorem KG.later {ok : α → Ws → Hp → Prop} {r : Out α × Mu} (h : KG W S H σ Wx ok r) (l : LtE S H S1 H1) : KG W S1 H1 σ Wx ok r := by
  obtain ⟨o, μ'⟩ := r
  cases o with
  | ok a => exact fun S' H' l' g => h S' H' (l.trans l') g
  | exc c fs => exact fun S' H' dd vs l' g => h S' H' dd vs (l.trans l') g
theorem tG.bind {f : Env → EM α} {g : α → EM β} {okA : α → Ws → Hp → Prop} {okB : β → Ws → Hp → Prop} {r : Out β × Mu} (hS : Sg W S H μ) (hE : EnvOk W S H σ env) (hf : bindE (f env) g μ = some r) (hk : KG W S H σ Wx okB r)
    (hR : ∀ a μ1 S1 H1, LtE S H S1 H1 → Sg W S1 H1 μ1 → EnvOk W S1 H1 σ env → g a μ1 = some r → KG W S1 H1 σ Wx okB r → okA a S1 H1) : tG W Wx f okA σ H := by
  unfold bindE at hf
  cases e : f env μ with
  | none => rw [e] at hf; cases hf
  | some q =>
    obtain ⟨o, μ1⟩ := q
    rw [e] at hf
    cases o with
    | ok a =>
      refine ⟨S, μ, env, _, hS, hE, e, fun S' H' l g' => ?_⟩
      exact hR a μ1 S' H' l g' (hE.laterE l) hf (hk.later l)
    | exc c fs =>
      cases hf
      exact ⟨S, μ, env, _, hS, hE, e, hk⟩
theorem tG.pure {f : Env → EM α} {ok : α → Ws → Hp → Prop} {r : Out α × Mu} (hS : Sg W S H μ) (hE : EnvOk W S H σ env) (hf : f env μ = some r) (hk : KG W S H σ Wx ok r) : tG W Wx f ok σ H := ⟨S, μ, env, r, hS, hE, hf, hk⟩
theorem optE_some {o : Option α} {μ : Mu} {r : Out α × Mu} (h : optE o μ = some r) : ∃ a, o = some a ∧ r = (.ok a, μ) := by
  cases o with
  | none => cases h
  | some a => cases h; exact ⟨a, rfl, rfl⟩
theorem guardE_some {b : Bool} {m : EM α} {μ : Mu} {r : Out α × Mu} (h : guardE b m μ = some r) : b = true ∧ m μ = some r := by
  cases b with
  | false => cases h
  | true => exact ⟨rfl, h⟩
/-- an answer that lays nothing -/
theorem KG.now {ok : α → Ws → Hp → Prop} {a : α} (hS : Sg W S H μ) (h : KG W S H σ Wx ok (.ok a, μ)) : ok a S H := h S H .refl hS
theorem RepB.laterE {v : V} {d : D} (h : RepB W S H v d) (l : LtE S H S1 H1) : RepB W S1 H1 v d := by
  rcases h with h | ⟨a, w, c, e1, e2, e3, e4, r⟩
  · exact .inl (h.later l)
  · obtain ⟨q1, q2⟩ := l.own a w e3 e4
    exact .inr ⟨a, w, c, e1, e2, q1, e4, r.later l q2⟩
theorem RepBs.laterE {v : List V} {d : List D} (h : RepBs W S H v d) (l : LtE S H S1 H1) : RepBs W S1 H1 v d := by
  induction h with
  | nil => exact .nil
  | cons r _ ih => exact .cons (r.laterE l) ih
theorem RepVs.toB {v : List V} {d : List D} (h : RepVs W S H v d) : RepBs W S H v d := by
  induction v generalizing d with
  | nil => cases h; exact .nil
  | cons v vs ih => cases h with | cons r q => exact .cons (.inl r) (ih q)
theorem PE.imp {X : Cx} {e : Expr} {t t' : TE} (h : PE X e t) (hi : ∀ σ H Q, t' σ H Q → t σ H Q) : PE X e t' := ⟨fun pins s σ H Q I hw => h.run pins s σ H Q I (hi _ _ _ hw)⟩
theorem PT.imp {X : Cx} {e : Expr} {t t' : TT} (h : PT X e t) (hi : ∀ σ H Q, t' σ H Q → t σ H Q) : PT X e t' := ⟨fun pins s σ H Q I hw => h.run pins s σ H Q I (hi _ _ _ hw)⟩
theorem PW.imp {X : Cx} {e : Expr} {t t' : TT} (h : PW X e t) (hi : ∀ σ H Q, t' σ H Q → t σ H Q) : PW X e t' := ⟨fun wh pins s σ H Q I hw => h.run wh pins s σ H Q I (hi _ _ _ hw)⟩
theorem PA.imp {X : Cx} {e : List Expr} {t t' : TA} (h : PA X e t) (hi : ∀ σ H Q, t' σ H Q → t σ H Q) : PA X e t' := ⟨fun po pins s σ H Q I hw => h.run po pins s σ H Q I (hi _ _ _ hw)⟩
/-- strict is borrowed -/
theorem toB {X : Cx} {e : Expr} {f : Env → EM D} (h : PE X e (tEv W Wx f)) : PE X e (tEvB W Wx f) := PE.imp h fun σ H Q ⟨S, μ, env, r, hS, hE, hf, hk⟩ => by
  refine ⟨S, μ, env, r, hS, hE, hf, ?_⟩
  obtain ⟨o, μ'⟩ := r
  cases o with
  | ok a => exact fun S' H' l g v rv => hk S' H' l g v (.inl rv)
  | exc c fs => exact hk

/-! names -/
def valS : Option Slot → Option D
  | some (.v d) => some d
  | _ => none
def valB : Option Slot → Option D
  | some (.v d) => some d
  | some (.own c) => some c.toD
  | _ => none
def fV (i : Nat) : Env → EM D := fun env => optE (valS env[i]?)
def fVB (i : Nat) : Env → EM D := fun env => optE (valB env[i]?)
theorem ev_var {X : Cx} {i : Nat} {x : Str} {pos : Pos} (h : PE X (.Name x pos) (tVar i)) : PE X (.Name x pos) (tEv W Wx (fV i)) :=
  PE.imp h fun σ H Q ⟨S, μ, env, r, hS, hE, hf, hk⟩ => by
    obtain ⟨d, e, rfl⟩ := optE_some hf
    cases q : env[i]? with
    | none => rw [q] at e; cases e
    | some sl =>
      rw [q] at e
      cases sl with
      | v d' =>
        cases e
        obtain ⟨v, e1, rv⟩ := hE.at_ i _ q
        exact ⟨v, e1, hk.now hS v rv⟩
      | no => cases e
      | own c => cases e
theorem ev_varB {X : Cx} {i : Nat} {x : Str} {pos : Pos} (h : PE X (.Name x pos) (tVar i)) : PE X (.Name x pos) (tEvB W Wx (fVB i)) :=
  PE.imp h fun σ H Q ⟨S, μ, env, r, hS, hE, hf, hk⟩ => by
    obtain ⟨d, e, rfl⟩ := optE_some hf
    cases q : env[i]? with
    | none => rw [q] at e; cases e
    | some sl =>
      rw [q] at e
      have w := hE.at_ i _ q
      cases sl with
      | v d' =>
        cases e
        obtain ⟨v, e1, rv⟩ := w
        exact ⟨v, e1, hk.now hS v (.inl rv)⟩
      | no => cases e
      | own c =>
        cases e
        obtain ⟨a, e1, e2, r⟩ := w
        exact ⟨_, e1, hk.now hS _ (.inr ⟨a, _, c, rfl, rfl, e2, trivial, r⟩)⟩

/-! constants -/
def fC (d : D) : Env → EM D := fun _ => pureE d
theorem ev_const {X : Cx} {e : Expr} {v : V} {d : D} (h : PE X e (tC v)) (hr : ∀ S H, RepV W S H v d) : PE X e (tEv W Wx (fC d)) :=
  PE.imp h fun σ H Q ⟨S, μ, env, r, hS, hE, hf, hk⟩ => by
    cases hf
    exact hk.now hS v (hr S H)

/-! operators by values -/
def OpSpec (W : Wd) (r : R2) (op : D → D → EM D) : Prop := ∀ (x y : V) (d e : D) (S : Ws) (H : Hp) (μ : Mu) (res : Out D × Mu) (σ : St) (Wx : WX) (Q : VK), Sg W S H μ → RepB W S H x d → RepB W S H y e → op d e μ = some res → KG W S H σ Wx (okV W Q) res → r x y H Q
def fOp2 (op : D → D → EM D) (f g : Env → EM D) : Env → EM D := fun env => bindE (f env) fun d => bindE (g env) fun e => op d e
theorem tOp_of {r : R2} {op : D → D → EM D} {f g : Env → EM D} (hs : OpSpec W r op) {σ : St} {H : Hp} {Q : VK} (h : tEv W Wx (fOp2 op f g) σ H Q) : tOp r (tEvB W Wx f) (tEvB W Wx g) σ H Q := by
  obtain ⟨S, μ, env, res, hS, hE, hf, hk⟩ := h
  refine tG.bind hS hE hf hk fun d μ1 S1 H1 l1 g1 e1 hf1 hk1 x rx => ?_
  refine tG.bind g1 e1 hf1 hk1 fun e μ2 S2 H2 l2 g2 e2 hf2 hk2 y ry => ?_
  exact hs x y d e S2 H2 μ2 res σ Wx Q g2 (rx.laterE l2) ry hf2 hk2
theorem ev_bin {X : Cx} {op : Operator} {r : R2} {a b : Expr} {pos : Pos} {opd : D → D → EM D} {f g : Env → EM D} (ho : OpR X (binaryOp op) r) (hs : OpSpec W r opd) (ha : PE X a (tEvB W Wx f)) (hb : PE X b (tEvB W Wx g)) :
    PE X (.BinOp a op b pos) (tEv W Wx (fOp2 opd f g)) := PE.imp (pe_op ho ha hb) fun σ H Q h => tOp_of hs h
theorem ev_cmp {X : Cx} {op : CmpOp} {r : R2} {a b : Expr} {pos : Pos} {opd : D → D → EM D} {f g : Env → EM D} (ho : OpR X (compareOp op) r) (hs : OpSpec W r opd) (ha : PE X a (tEvB W Wx f)) (hb : PE X b (tEvB W Wx g)) (hm : behindInMarks op b = false) :
    PE X (.Compare a [op] [b] pos) (tEv W Wx (fOp2 opd f g)) := PE.imp (pe_cmpR ho ha hb hm) fun σ H Q h => tOp_of hs h
def asB : D → Option Bool
  | .bl b => some b
  | _ => none
/-- the value is a bool: as a test -/
def fT (f : Env → EM D) : Env → EM Bool := fun env => bindE (f env) fun d => optE (asB d)
theorem tB_of {f : Env → EM D} {σ : St} {H : Hp} {Q : Bool → Hp → Prop} (h : tEvT W Wx (fT f) σ H Q) : tEv W Wx f σ H (fun x H1 => ∃ c, x = .bl c ∧ Q c H1) := by
  obtain ⟨S, μ, env, res, hS, hE, hf, hk⟩ := h
  refine tG.bind hS hE hf hk fun d μ1 S1 H1 l1 g1 e1 hf1 hk1 x rx => ?_
  obtain ⟨b, e, rfl⟩ := optE_some hf1
  cases d <;> first | cases e | skip
  cases rx
  exact ⟨b, rfl, hk1.now g1⟩
theorem et_cmp {X : Cx} {op : CmpOp} {r : R2} {a b : Expr} {pos : Pos} {opd : D → D → EM D} {f g : Env → EM D} (ho : OpR X (compareOp op) r) (hs : OpSpec W r opd) (ha : PE X a (tEvB W Wx f)) (hb : PE X b (tEvB W Wx g)) (hm : behindInMarks op b = false) :
    PT X (.Compare a [op] [b] pos) (tEvT W Wx (fT (fOp2 opd f g))) := PT.imp (pt_cmpR ho ha hb hm) fun σ H Q h => tOp_of hs (tB_of h)
/-- a < b < c -/
def fChain (op op' : D → D → EM D) (f g k : Env → EM D) : Env → EM D := fun env => bindE (f env) fun d => bindE (g env) fun e => bindE (op d e) fun z => match asB z with
  | some true => bindE (k env) fun z' => op' e z'
  | some false => pureE (.bl false)
  | none => failE
end
end EG
namespace EG
open PySem L2

section
variable {W : Wd} {S S' S1 : Ws} {H H' H1 : Hp} {σ : St} {env : Env} {μ : Mu} {Wx : WX} {α β : Type} {X : Cx}
theorem KG.mono {ok ok' : α → Ws → Hp → Prop} {r : Out α × Mu} (h : KG W S H σ Wx ok r) (m : ∀ a S' H', ok a S' H' → ok' a S' H') : KG W S H σ Wx ok' r := by
  obtain ⟨o, μ'⟩ := r
  cases o with
  | ok a => exact fun S' H' l g => m _ _ _ (h S' H' l g)
  | exc c fs => exact h
theorem KG.bind {m : EM α} {g : α → EM β} {ok : β → Ws → Hp → Prop} {r : Out β × Mu} (hf : bindE m g μ = some r) (hk : KG W S H σ Wx ok r) :
    ∃ res, m μ = some res ∧ KG W S H σ Wx (fun a S' H' => ∃ μ', Sg W S' H' μ' ∧ LtE S H S' H' ∧ g a μ' = some r ∧ KG W S' H' σ Wx ok r) res := by
  unfold bindE at hf
  cases e : m μ with
  | none => rw [e] at hf; cases hf
  | some q =>
    obtain ⟨o, μ1⟩ := q
    rw [e] at hf
    refine ⟨_, rfl, ?_⟩
    cases o with
    | ok a => exact fun S' H' l g' => ⟨μ1, g', l, hf, hk.later l⟩
    | exc c fs => cases hf; exact hk

theorem iT {c A B : Prop} [Decidable c] (hc : c) (h : A) : if c then A else B := by rw [if_pos hc]; exact h
theorem iF {c A B : Prop} [Decidable c] (hc : ¬ c) (h : B) : if c then A else B := by rw [if_neg hc]; exact h
theorem okT_mk {Q : Bool → Hp → Prop} {b : Bool} (h : Q b H') : okT Q b S' H' := h
/-! a < b < c -/
/-! tests -/
def fAndT (f g : Env → EM Bool) : Env → EM Bool := fun env => bindE (f env) fun b => match b with
  | true => g env
  | false => pureE false
def fOrT (f g : Env → EM Bool) : Env → EM Bool := fun env => bindE (f env) fun b => match b with
  | true => pureE true
  | false => g env
def fNotT (f : Env → EM Bool) : Env → EM Bool := fun env => bindE (f env) fun b => pureE (!b)
theorem ew_and1 {a : Expr} {pos : Pos} {f : Env → EM Bool} (h : PT X a (tEvT W Wx f)) : PW X (.BoolOp .And [a] pos) (tEvT W Wx f) := pw_and1 h
theorem ew_or1 {a : Expr} {pos : Pos} {f : Env → EM Bool} (h : PT X a (tEvT W Wx f)) : PW X (.BoolOp .Or [a] pos) (tEvT W Wx f) := pw_or1 h
theorem ew_and {a b : Expr} {rest : List Expr} {pos : Pos} {f g : Env → EM Bool} (h : PT X a (tEvT W Wx f)) (h2 : PW X (.BoolOp .And (b :: rest) pos) (tEvT W Wx g)) : PW X (.BoolOp .And (a :: b :: rest) pos) (tEvT W Wx (fAndT f g)) :=
  PW.imp (pw_and h h2) fun σ H Q ⟨S, μ, env, res, hS, hE, hf, hk⟩ => by
    refine tG.bind hS hE hf hk fun b μ1 S1 H1 l1 g1 e1 hf1 hk1 => okT_mk ?_
    cases b with
    | true => exact iT rfl ⟨S1, μ1, env, res, g1, e1, hf1, hk1⟩
    | false => cases hf1; have z := hk1.now g1; exact iF Bool.false_ne_true z
theorem ew_or {a b : Expr} {rest : List Expr} {pos : Pos} {f g : Env → EM Bool} (h : PT X a (tEvT W Wx f)) (h2 : PW X (.BoolOp .Or (b :: rest) pos) (tEvT W Wx g)) : PW X (.BoolOp .Or (a :: b :: rest) pos) (tEvT W Wx (fOrT f g)) :=
  PW.imp (pw_or h h2) fun σ H Q ⟨S, μ, env, res, hS, hE, hf, hk⟩ => by
    refine tG.bind hS hE hf hk fun b μ1 S1 H1 l1 g1 e1 hf1 hk1 => okT_mk ?_
    cases b with
    | true => cases hf1; have z := hk1.now g1; exact iT rfl z
    | false => exact iF Bool.false_ne_true ⟨S1, μ1, env, res, g1, e1, hf1, hk1⟩
theorem et_not {a : Expr} {pos : Pos} {f : Env → EM Bool} (h : PT X a (tEvT W Wx f)) : PT X (.UnaryOp .Not a pos) (tEvT W Wx (fNotT f)) :=
  PT.imp (pt_not h) fun σ H Q ⟨S, μ, env, res, hS, hE, hf, hk⟩ => by
    refine tG.bind hS hE hf hk fun b μ1 S1 H1 l1 g1 e1 hf1 hk1 => ?_
    cases hf1; have z := hk1.now g1; exact z
/-- truth of a value -/
def truD : D → Option Bool
  | .non => some false
  | .bl b => some b
  | .int i => some (i != 0)
  | .str s => some (s.length != 0)
  | .lst xs => some (!xs.isEmpty)
  | .tup xs => some (!xs.isEmpty)
  | _ => none
def fTru (f : Env → EM D) : Env → EM Bool := fun env => bindE (f env) fun d => optE (truD d)
theorem RepVs.isEmpty {vs : List V} {ds : List D} (h : RepVs W S H vs ds) : ds.isEmpty = vs.isEmpty := by
  cases h <;> rfl
theorem RepB.strict {v : V} {d : D} (h : RepB W S H v d) (hd : ∀ c : Cell, d ≠ c.toD) : RepV W S H v d := by
  rcases h with h | ⟨a, w, c, e1, e2, _⟩
  · exact h
  · exact absurd e2 (hd c)
/-- a borrowed list -/
theorem RepB.lst {v : V} {xs : List D} (h : RepB W S H v (.lst xs)) : ∃ a vs, v = .ref a ∧ H a = some (.lst vs) ∧ vs.length ≤ big ∧ RepVs W S H vs xs := by
  rcases h with h | ⟨a, w, c, e1, e2, e3, e4, r⟩
  · cases h with
    | lst h1 h2 h3 h4 => exact ⟨_, _, rfl, h1, h3, h4⟩
  · cases c <;> cases e2
    obtain ⟨vs, q1, q2, q3⟩ := r
    exact ⟨a, vs, e1, q1, q2, q3⟩
theorem RepB.obj {v : V} {c : Nat} {fs : List (Str × D)} (h : RepB W S H v (.obj c fs)) : ∃ a dx vs, v = .ref a ∧ H a = some (.ins (W.ca c) dx vs) ∧ RepFs W S H vs fs := by
  rcases h with h | ⟨a, w, c, e1, e2, e3, e4, r⟩
  · cases h with | obj h1 h2 h3 => exact ⟨_, _, _, rfl, h1, h3⟩
  · cases c <;> cases e2
    obtain ⟨dx, vs, q1, q2⟩ := r
    exact ⟨a, dx, vs, e1, q1, q2⟩
theorem RepB.dK {v : V} {xs : List (Key × D)} (h : RepB W S H v (.dK xs)) : ∃ a vs, v = .ref a ∧ H a = some (.dK vs) ∧ vs.length ≤ big ∧ RepKs W S H vs xs := by
  rcases h with h | ⟨a, w, c, e1, e2, e3, e4, r⟩
  · cases h with | dK h1 h2 h3 h4 => exact ⟨_, _, rfl, h1, h3, h4⟩
  · cases c <;> cases e2
    obtain ⟨vs, q1, q2, q3⟩ := r
    exact ⟨a, vs, e1, q1, q2, q3⟩
theorem RepB.dT {v : V} {xs : List (List Key × D)} (h : RepB W S H v (.dT xs)) : ∃ a vs, v = .ref a ∧ H a = some (.dT vs) ∧ vs.length ≤ big ∧ RepTs W S H vs xs := by
  rcases h with h | ⟨a, w, c, e1, e2, e3, e4, r⟩
  · cases h with | dT h1 h2 h3 h4 => exact ⟨_, _, rfl, h1, h3, h4⟩
  · cases c <;> cases e2
    obtain ⟨vs, q1, q2, q3⟩ := r
    exact ⟨a, vs, e1, q1, q2, q3⟩
theorem RepB.tupV {v : V} {xs : List D} (h : RepB W S H v (.tup xs)) : RepV W S H v (.tup xs) := h.strict fun c => by cases c <;> exact fun z => nomatch z
theorem RepB.tup {v : V} {xs : List D} (h : RepB W S H v (.tup xs)) : ∃ a vs, v = .ref a ∧ SqT W.K H a vs ∧ vs.length ≤ big ∧ RepVs W S H vs xs := by
  cases h.tupV with
  | tup h1 h2 h3 h4 => exact ⟨_, _, rfl, SqT.of h1, h3, h4⟩
  | tupK h1 h2 h3 => exact ⟨_, _, rfl, h1.seq, h2, h3⟩
theorem RepB.int {v : V} {i : Int} (h : RepB W S H v (.int i)) : v = .int i := by
  cases h.strict fun c => by cases c <;> exact fun z => nomatch z
  rfl
theorem RepB.bl {v : V} {i : Bool} (h : RepB W S H v (.bl i)) : v = .bl i := by
  cases h.strict fun c => by cases c <;> exact fun z => nomatch z
  rfl
theorem RepB.non {v : V} (h : RepB W S H v .non) : v = .non := by
  cases h.strict fun c => by cases c <;> exact fun z => nomatch z
  rfl
theorem RepB.str {v : V} {s : Str} (h : RepB W S H v (.str s)) : v = .str s ∧ s.length ≤ big := by
  cases h.strict fun c => by cases c <;> exact fun z => nomatch z
  exact ⟨rfl, by assumption⟩
theorem RepB.cell {v : V} {n : Nat} (h : RepB W S H v (.cell n)) : ∃ a, v = .ref a ∧ S.ρ[n]? = some a ∧ S.Ow a = some (.cell n) := by
  cases h.strict fun c => by cases c <;> exact fun z => nomatch z
  exact ⟨_, rfl, by assumption, by assumption⟩
theorem RepV.scrS {a : Addr} {ns : List Int} (h : RepV W S H (.ref a) (.scr ns)) : SqL W.K H a (ns.map V.int) ∧ ns.length ≤ big := by
  cases h with
  | scr h1 h2 h3 h4 =>
    rcases h3 with rfl | ⟨o, rfl⟩
    · exact ⟨SqL.of h1, h4⟩
    · exact ⟨.inl (.inr ⟨o, h1⟩), h4⟩
  | scrK h1 h2 => exact ⟨h1.seq, h2⟩
theorem RepB.scr {v : V} {ns : List Int} (h : RepB W S H v (.scr ns)) : ∃ a, v = .ref a ∧ SqL W.K H a (ns.map V.int) ∧ ns.length ≤ big := by
  have q := h.strict fun c => by cases c <;> exact fun z => nomatch z
  cases v with
  | ref a => exact ⟨a, rfl, q.scrS⟩
  | _ => cases q
theorem truV_of {v : V} {d : D} {b : Bool} {K : PySem.W.Frag} (hK : K = W.K) (h : RepB W S H v d) (e : truD d = some b) : TruV K v H b := by
  subst hK
  cases d with
  | non => cases e; rw [h.non]; rfl
  | bl b => cases e; rw [h.bl]; rfl
  | int i => cases e; rw [h.int]; rfl
  | str s =>
    cases e; rw [h.str.1]
    exact ⟨Nat.le_trans h.str.2 big_le, by
      by_cases z : s.length = 0
      · rw [z]; rfl
      · have z' : ¬ ((s.length : Int) = 0) := by omega
        rw [bne_iff_ne.mpr z, bne_iff_ne.mpr z']⟩
  | lst xs =>
    cases e
    obtain ⟨a, vs, rfl, h1, h2, r⟩ := h.lst
    exact .inl ⟨vs, SqL.of h1, by rw [r.isEmpty]⟩
  | tup xs =>
    cases e
    obtain ⟨a, vs, rfl, h1, h2, r⟩ := h.tup
    exact .inr (.inl ⟨vs, h1, by rw [r.isEmpty]⟩)
  | _ => cases e
theorem et_truth (hK : X.K = W.K) {a : Expr} {f : Env → EM D} (ha : PE X a (tEvB W Wx f)) (he : ∀ whole, isTrue a X.env whole = (do let v ← whole; standAt a.pos; holding [v] (truthy v))) : PT X a (tEvT W Wx (fTru f)) :=
  PT.imp (pt_truth ha he) fun σ H Q ⟨S, μ, env, res, hS, hE, hf, hk⟩ => by
    refine tG.bind hS hE hf hk fun d μ1 S1 H1 l1 g1 e1 hf1 hk1 v rv => ?_
    obtain ⟨b, e, rfl⟩ := optE_some hf1
    exact ⟨b, truV_of hK rv e, hk1.now g1⟩
/-! and, or, not as values (of bools) -/
def fAndV (f g : Env → EM D) : Env → EM D := fun env => bindE (f env) fun d => match asB d with
  | some true => g env
  | some false => pureE (.bl false)
  | none => failE
def fOrV (f g : Env → EM D) : Env → EM D := fun env => bindE (f env) fun d => match asB d with
  | some true => pureE (.bl true)
  | some false => g env
  | none => failE
def fNotV (f : Env → EM D) : Env → EM D := fun env => bindE (f env) fun d => match asB d with
  | some b => pureE (.bl (!b))
  | none => failE
theorem asB_some {d : D} {b : Bool} (h : asB d = some b) : d = .bl b := by cases d <;> first | cases h; rfl | cases h
theorem ev_one {op} {a : Expr} {pos : Pos} {f : Env → EM D} (h : PE X a (tEv W Wx f)) : PE X (.BoolOp op [a] pos) (tEv W Wx f) := pe_one h
theorem ev_and {a b : Expr} {rest : List Expr} {pos : Pos} {f g : Env → EM D} (h : PE X a (tEv W Wx f)) (h2 : PE X (.BoolOp .And (b :: rest) pos) (tEv W Wx g)) : PE X (.BoolOp .And (a :: b :: rest) pos) (tEv W Wx (fAndV f g)) :=
  PE.imp (pe_and h h2) fun σ H Q ⟨S, μ, env, res, hS, hE, hf, hk⟩ => by
    refine tG.bind hS hE hf hk fun d μ1 S1 H1 l1 g1 e1 hf1 hk1 v rv => ?_
    cases e : asB d with
    | none => rw [e] at hf1; cases hf1
    | some b =>
      rw [e] at hf1
      cases asB_some e
      cases rv
      refine ⟨b, rfl, ?_⟩
      cases b with
      | true => exact iT rfl ⟨S1, μ1, env, res, g1, e1, hf1, hk1⟩
      | false => cases hf1; have z := hk1.now g1 _ (.bl false); exact iF Bool.false_ne_true z
theorem ev_or {a b : Expr} {rest : List Expr} {pos : Pos} {f g : Env → EM D} (h : PE X a (tEv W Wx f)) (h2 : PE X (.BoolOp .Or (b :: rest) pos) (tEv W Wx g)) : PE X (.BoolOp .Or (a :: b :: rest) pos) (tEv W Wx (fOrV f g)) :=
  PE.imp (pe_or h h2) fun σ H Q ⟨S, μ, env, res, hS, hE, hf, hk⟩ => by
    refine tG.bind hS hE hf hk fun d μ1 S1 H1 l1 g1 e1 hf1 hk1 v rv => ?_
    cases e : asB d with
    | none => rw [e] at hf1; cases hf1
    | some b =>
      rw [e] at hf1
      cases asB_some e
      cases rv
      refine ⟨b, rfl, ?_⟩
      cases b with
      | true => cases hf1; have z := hk1.now g1 _ (.bl true); exact iT rfl z
      | false => exact iF Bool.false_ne_true ⟨S1, μ1, env, res, g1, e1, hf1, hk1⟩
theorem ev_not {a : Expr} {pos : Pos} {f : Env → EM D} (h : PE X a (tEv W Wx f)) : PE X (.UnaryOp .Not a pos) (tEv W Wx (fNotV f)) :=
  PE.imp (pe_not h) fun σ H Q ⟨S, μ, env, res, hS, hE, hf, hk⟩ => by
    refine tG.bind hS hE hf hk fun d μ1 S1 H1 l1 g1 e1 hf1 hk1 v rv => ?_
    cases e : asB d with
    | none => rw [e] at hf1; cases hf1
    | some b =>
      rw [e] at hf1
      cases asB_some e
      cases rv
      cases hf1
      exact ⟨b, rfl, hk1.now g1 _ (.bl (!b))⟩
def fIf (c : Env → EM Bool) (f g : Env → EM D) : Env → EM D := fun env => bindE (c env) fun b => match b with
  | true => f env
  | false => g env
theorem ev_ife {c a b : Expr} {pos : Pos} {fc : Env → EM Bool} {f g : Env → EM D} (hc : PT X c (tEvT W Wx fc)) (ha : PE X a (tEv W Wx f)) (hb : PE X b (tEv W Wx g)) : PE X (.IfExp c a b pos) (tEv W Wx (fIf fc f g)) :=
  PE.imp (pe_ifExp hc ha hb) fun σ H Q ⟨S, μ, env, res, hS, hE, hf, hk⟩ => by
    refine tG.bind hS hE hf hk fun b μ1 S1 H1 l1 g1 e1 hf1 hk1 => okT_mk ?_
    cases b with
    | true => exact iT rfl ⟨S1, μ1, env, res, g1, e1, hf1, hk1⟩
    | false => exact iF Bool.false_ne_true ⟨S1, μ1, env, res, g1, e1, hf1, hk1⟩

/-! arguments -/
def fNil : Env → EM (List D) := fun _ => pureE []
def fCons (f : Env → EM D) (g : Env → EM (List D)) : Env → EM (List D) := fun env => bindE (f env) fun d => bindE (g env) fun ds => pureE (d :: ds)
theorem ea_nil : PA X [] (tEvs W Wx fNil) := PA.imp pa_nil fun σ H Q ⟨S, μ, env, res, hS, hE, hf, hk⟩ => by
  cases hf; exact hk.now hS _ .nil
theorem ea_cons {e : Expr} {es : List Expr} {f : Env → EM D} {g : Env → EM (List D)} (h : PE X e (tEv W Wx f)) (h2 : PA X es (tEvs W Wx g)) (hs : starEach (e :: es) X.env = (false, eval e X.env) :: starEach es X.env) : PA X (e :: es) (tEvs W Wx (fCons f g)) :=
  PA.imp (pa_cons h h2 hs) fun σ H Q ⟨S, μ, env, res, hS, hE, hf, hk⟩ => by
    refine tG.bind hS hE hf hk fun d μ1 S1 H1 l1 g1 e1 hf1 hk1 v rv => ?_
    refine tG.bind g1 e1 hf1 hk1 fun ds μ2 S2 H2 l2 g2 e2 hf2 hk2 vs rvs => ?_
    cases hf2
    exact hk2.now g2 _ (.cons (rv.later l2) rvs)
theorem eb_nil : PA X [] (tEvBs W Wx fNil) := PA.imp pa_nil fun σ H Q ⟨S, μ, env, res, hS, hE, hf, hk⟩ => by
  cases hf; exact hk.now hS _ .nil
theorem eb_cons {e : Expr} {es : List Expr} {f : Env → EM D} {g : Env → EM (List D)} (h : PE X e (tEvB W Wx f)) (h2 : PA X es (tEvBs W Wx g)) (hs : starEach (e :: es) X.env = (false, eval e X.env) :: starEach es X.env) : PA X (e :: es) (tEvBs W Wx (fCons f g)) :=
  PA.imp (pa_cons h h2 hs) fun σ H Q ⟨S, μ, env, res, hS, hE, hf, hk⟩ => by
    refine tG.bind hS hE hf hk fun d μ1 S1 H1 l1 g1 e1 hf1 hk1 v rv => ?_
    refine tG.bind g1 e1 hf1 hk1 fun ds μ2 S2 H2 l2 g2 e2 hf2 hk2 vs rvs => ?_
    cases hf2
    exact hk2.now g2 _ (.cons (rv.laterE l2) rvs)

/-! displays -/
def fTup (g : Env → EM (List D)) : Env → EM D := fun env => bindE (g env) fun ds => guardE (decide (ds.length ≤ big)) (pureE (.tup ds))
theorem ev_tup {es : List Expr} {k : Nat} {pos : Pos} {g : Env → EM (List D)} (h : PA X es (tEvs W Wx g)) : PE X (.Tuple es k pos) (tEv W Wx (fTup g)) :=
  PE.imp (pe_tup h) fun σ H Q ⟨S, μ, env, res, hS, hE, hf, hk⟩ => by
    refine tG.bind hS hE hf hk fun ds μ1 S1 H1 l1 g1 e1 hf1 hk1 vs rvs => ?_
    obtain ⟨hl, hf2⟩ := guardE_some hf1
    cases hf2
    have hl : ds.length ≤ big := of_decide_eq_true hl
    rw [← rvs.length] at hl
    refine ⟨Nat.le_trans hl big_le, fun p hp => ?_⟩
    have lt : LtE S1 H1 S1 (upd H1 p (.tup vs)) := lt_upd hp g1.wf
    exact hk1 S1 _ lt (g1.upd hp) _ (.tup upd_same (g1.fresh hp) hl (rvs.later lt))
def fLst (g : Env → EM (List D)) : Env → EM (List D) := fun env => bindE (g env) fun ds => guardE (decide (ds.length ≤ big)) (pureE ds)
/-- a list display: new -/
theorem el_lst {es : List Expr} {pos : Pos} {g : Env → EM (List D)} (h : PA X es (tEvs W Wx g)) : PE X (.List es pos) (tEvL W Wx (fLst g)) :=
  PE.imp (pe_lst h) fun σ H Q ⟨S, μ, env, res, hS, hE, hf, hk⟩ => by
    refine tG.bind hS hE hf hk fun ds μ1 S1 H1 l1 g1 e1 hf1 hk1 vs rvs => ?_
    obtain ⟨hl, hf2⟩ := guardE_some hf1
    cases hf2
    have hl : ds.length ≤ big := of_decide_eq_true hl
    rw [← rvs.length] at hl
    refine ⟨Nat.le_trans hl big_le, fun p hp => ?_⟩
    have lt : LtE S1 H1 (S1.set p (some .out)) (upd H1 p (.lst vs)) := lt_new hp g1.wf
    refine hk1 (S1.set p (some .out)) _ lt (g1.new hp) p vs ?_ Ws.set_same upd_same hl (rvs.later lt)
    cases e : H p with
    | none => rfl
    | some o => exact absurd hp (l1.mem p (by rw [e]; exact fun z => nomatch z))
/-- a new list as data -/
def fD (g : Env → EM (List D)) : Env → EM D := fun env => bindE (g env) fun ds => pureE (.lst ds)
theorem new_of {g : Env → EM (List D)} {Q : VK} (h : tEv W Wx (fD g) σ H Q) : tEvL W Wx g σ H Q := by
  obtain ⟨S, μ, env, res, hS, hE, hf, hk⟩ := h
  unfold fD bindE at hf
  cases e : g env μ with
  | none => rw [e] at hf; cases hf
  | some q =>
    obtain ⟨o, μ1⟩ := q
    rw [e] at hf
    cases o with
    | exc c fs => cases hf; exact ⟨S, μ, env, _, hS, hE, e, hk⟩
    | ok ds =>
      cases hf
      refine ⟨S, μ, env, _, hS, hE, e, fun S' H' l g' p vs hp ho hh hl r => ?_⟩
      have l2 : Lt kE S H (S'.set p none) H' := by
        refine ⟨fun a o q w => ?_, fun a w q k => ?_, fun n a q w => ?_, l.mem⟩
        · have : a ≠ p := fun z => by rw [z, hp] at w; cases w
          rw [Ws.set_ne this]; exact l.dat a o q w
        · have : a ≠ p := fun z => by obtain ⟨u, z'⟩ := hS.wf a w q; rw [z, hp] at z'; cases z'
          rw [Ws.set_ne this]; exact l.own a w q k
        · have : a ≠ p := fun z => by obtain ⟨u, z'⟩ := hS.wf a _ w; rw [z, hp] at z'; cases z'
          rw [Ws.set_ne this]; exact l.cel n a q w
      have l3 : Lt (fun _ => False) S' H' (S'.set p none) H' := lt_set ho (fun x => x) fun n z => nomatch z
      exact hk (S'.set p none) H' l2 (g'.set ho fun n z => nomatch z) _ (.lst hh Ws.set_same hl (r.later l3))
theorem ev_new {e : Expr} {g : Env → EM (List D)} (h : PE X e (tEvL W Wx g)) : PE X e (tEv W Wx (fD g)) := PE.imp h fun σ H Q h => new_of h

/-! built-in functions -/
def CallSpec (W : Wd) (r : List V → Hp → VK → Prop) (op : List D → EM D) : Prop := ∀ (vs : List V) (ds : List D) (S : Ws) (H : Hp) (μ : Mu) (res : Out D × Mu) (σ : St) (Wx : WX) (Q : VK), Sg W S H μ → RepBs W S H vs ds → op ds μ = some res → KG W S H σ Wx (okV W Q) res → r vs H Q
/-- .. that lays a new list -/
def CallSpecL (W : Wd) (r : List V → Hp → VK → Prop) (op : List D → EM (List D)) : Prop := ∀ (vs : List V) (ds : List D) (S : Ws) (H : Hp) (μ : Mu) (res : Out (List D) × Mu) (σ : St) (Wx : WX) (Q : VK) (H0 : Hp), Sg W S H μ → (∀ a, H0 a ≠ none → H a ≠ none) → RepBs W S H vs ds → op ds μ = some res → KG W S H σ Wx (okL W Q H0) res → r vs H Q
def fCB {α : Type} (op : List D → EM α) (g : Env → EM (List D)) : Env → EM α := fun env => bindE (g env) op
theorem tCB_of {r : List V → Hp → VK → Prop} {op : List D → EM D} {g : Env → EM (List D)} (hs : CallSpec W r op) {H : Hp} {Q : VK} (h : tEv W Wx (fCB op g) σ H Q) : tCB r (tEvBs W Wx g) σ H Q := by
  obtain ⟨S, μ, env, res, hS, hE, hf, hk⟩ := h
  exact tG.bind hS hE hf hk fun ds μ1 S1 H1 l1 g1 e1 hf1 hk1 vs rvs => hs vs ds S1 H1 μ1 res σ Wx Q g1 rvs hf1 hk1
theorem tCBL_of {r : List V → Hp → VK → Prop} {op : List D → EM (List D)} {g : Env → EM (List D)} (hs : CallSpecL W r op) {H : Hp} {Q : VK} (h : tEvL W Wx (fCB op g) σ H Q) : tCB r (tEvBs W Wx g) σ H Q := by
  obtain ⟨S, μ, env, res, hS, hE, hf, hk⟩ := h
  exact tG.bind hS hE hf hk fun ds μ1 S1 H1 l1 g1 e1 hf1 hk1 vs rvs => hs vs ds S1 H1 μ1 res σ Wx Q H g1 l1.mem rvs hf1 hk1
end
end EG
namespace L2
open PySem PySem.Spec PyProof.Rows
/-! tuple * 1 is the tuple itself -/
theorem tuple_mul1 (l : Addr) (items : Array Value) (n : Nat) (dd : Option Addr) (sl : Array (Option Value)) (u : Tok) :
    Meets (Builtin.«tuple.__mul__» ⟨[.ref l, .int 1 u], []⟩) (fun _ R s => s.heap.get? l = some { cls := .type "tuple", dict := dd, data := .seq items n, slots := sl } ∧ R (.ok (.ret (Value.ref l))) s) :=
  .of_wp fun prog w A R s h => by
    obtain ⟨hp, g, d, tk, os⟩ := s
    obtain ⟨hl, h⟩ := h
    have f1 := AutoSeq1.idx_int
    have c0 : (decide ((1 : Int) < -(2 ^ 63)) || decide ((1 : Int) ≥ 2 ^ 63)) = false := by decide
    have c1 : (items.isEmpty || (1 : Int) == 1) = true := by simp
    wp_walk using wpAny_loadPart' hl
    repeat (first
      | (refine wpAny_ite_false (decide_eq_false (by rw [c0]; exact Bool.false_ne_true)) ?_; wp_walk using wpAny_loadPart' hl)
      | (refine wpAny_ite_true (decide_eq_true (by rw [c1])) ?_; wp_walk using wpAny_loadPart' hl))
    exact ⟨_, rfl, h⟩
def rRep1 (K : PySem.W.Frag) : R2 := fun x y H Q => ∃ l xs, x = .ref l ∧ y = .int 1 ∧ SqT K H l xs ∧ Q (.ref l) H
section
variable {X : Cx}
theorem op_rep1 : OpR X (binaryOp .Mult) (rRep1 X.K) := by
  intro pins s σ H x y v u Q I rx ry h
  obtain ⟨l, xs, rfl, rfl, hT, q⟩ := h
  cases rx
  obtain ⟨t, rfl⟩ := ry
  obtain ⟨its, r, ⟨⟨cls, dd, data, sl⟩, ho, hc, n, hd⟩, hs⟩ := I.tuple hT
  simp only at hc hd
  subst hc hd
  refine wpAny_binaryOp_repeat_ref (T := "tuple") (U := "int") (by decide) ⟨_, ho, rfl⟩ (fun s' => typeIs_int s' 1 t) noFill_tuple_mul F.fills_int_mul F.slot_int_rmul repeat_tuple F.slot_int_index.lookup
    (call_meets F.slot_int_rmul (typeIs_int s 1 t) F.entry_int_rmul (F.args_int_rmul_2 _ _) (int_rmul_tuple 1 t l its.toArray n dd sl)
      ⟨ho, rfl, ⟨_, ho, rfl⟩, call_meets F.slot_tuple_mul ⟨_, ho, rfl⟩ F.entry_tuple_mul (F.args_tuple_mul_2 _ _) (tuple_mul1 l its.toArray n dd sl t) ⟨ho, ?_⟩⟩)
  exact ⟨.ref l, _, I, rfl, q⟩
end
end L2
namespace EG
open PySem L2

/-! what the operators do to data -/
def okMul (i j : Int) : Bool := decide (-(2 ^ 64) < i ∧ i < 2 ^ 64) || decide (-(2 ^ 64) < j ∧ j < 2 ^ 64)
def addD : D → D → EM D
  | .int i, .int j => pureE (.int (i + j))
  | .str x, .str y => guardE (decide (x.length + y.length ≤ big)) (pureE (.str (x ++ y)))
  | .tup xs, .tup ys => guardE (decide (xs.length + ys.length ≤ big)) (pureE (.tup (xs ++ ys)))
  | .lst xs, .lst ys => guardE (decide (xs.length + ys.length ≤ big)) (pureE (.lst (xs ++ ys)))
  | _, _ => failE
def subD : D → D → EM D
  | .int i, .int j => pureE (.int (i - j))
  | _, _ => failE
def repL (k : Nat) (xs : List D) : List D := (List.replicate k xs).flatten
def mulD : D → D → EM D
  | .int i, .int j => guardE (okMul i j) (pureE (.int (i * j)))
  | .lst xs, .int k => guardE (decide (-(2 ^ 63) ≤ k ∧ k < 2 ^ 63 ∧ xs.length * k.toNat ≤ big)) (pureE (.lst (repL k.toNat xs)))
  | .tup xs, .int k => guardE (decide (0 < xs.length ∧ 1 ≤ k ∧ k ≤ 1000 ∧ xs.length ≤ 1000)) (pureE (.tup (repL k.toNat xs)))
  | _, _ => failE
def divD : D → D → EM D
  | .int i, .int j => guardE (decide (0 < j ∧ j < 2 ^ 64)) (pureE (.int (i / j)))
  | _, _ => failE
def modD : D → D → EM D
  | .int i, .int j => guardE (decide (0 < j)) (pureE (.int (i % j)))
  | _, _ => failE
def powD : D → D → EM D
  | .int i, .int j => guardE (decide (0 ≤ j ∧ j ≤ 1000000 ∧ i.natAbs < 2 ^ 64)) (pureE (.int (i ^ j.toNat)))
  | _, _ => failE
def cmpI (p : Int → Int → Bool) : D → D → EM D
  | .int i, .int j => pureE (.bl (p i j))
  | _, _ => failE
def scalD : D → D → Option Bool
  | .non, .non => some true | .non, .int _ => some false | .int _, .non => some false | .non, .bl _ => some false | .bl _, .non => some false
  | .non, .str _ => some false | .str _, .non => some false
  | .int i, .int j => some (decide (i = j)) | .bl a, .bl b => some (decide (a = b)) | .str x, .str y => some (decide (x = y))
  | .int _, .str _ => some false | .str _, .int _ => some false | .bl _, .str _ => some false | .str _, .bl _ => some false
  | _, _ => none
mutual
def layD : D → Option PyData
  | .non => some .none
  | .bl b => some (.bool b)
  | .int i => some (.int i)
  | .str s => if PyData.strOk s then some (.str s) else none
  | .lst xs => match layAll xs with
    | some ps => some (.list ps)
    | none => none
  | .tup xs => match layAll xs with
    | some ps => some (.tuple ps)
    | none => none
  | _ => none
def layAll : List D → Option (List PyData)
  | [] => some []
  | d :: ds => match layD d, layAll ds with
    | some p, some ps => some (p :: ps)
    | _, _ => none
end
def eqD (d e : D) : Option Bool := match scalD d e with
  | some b => some b
  | none => match layD d, layD e with
    | some p, some q => if p.depth ≤ 64 ∧ q.depth ≤ 64 then some (PyData.eqv p q) else none
    | _, _ => none
def eqDD : D → D → EM D := fun d e => optE ((eqD d e).map .bl)
def neDD : D → D → EM D := fun d e => optE ((eqD d e).map fun b => .bl (!b))
def isND : D → D → EM D
  | .non, .non => pureE (.bl true)
  | .cell _, .non => pureE (.bl false)
  | .bl _, .non => pureE (.bl false)
  | .int _, .non => pureE (.bl false)
  | .str _, .non => pureE (.bl false)
  | .lst _, .non => pureE (.bl false)
  | .tup _, .non => pureE (.bl false)
  | .obj _ _, .non => pureE (.bl false)
  | .bl a, .bl b => pureE (.bl (decide (a = b)))
  | _, _ => failE
def notND : D → D → EM D := fun d e => bindE (isND d e) fun z => match z with
  | .bl b => pureE (.bl (!b))
  | _ => failE
def flatD : D → Bool
  | .non => true | .bl _ => true | .int _ => true | .str _ => true
  | _ => false
def eqF : D → D → Bool
  | .non, .non => true
  | .bl a, .bl b => a == b
  | .bl a, .int b => (if a then 1 else 0) == b
  | .int a, .bl b => a == (if b then 1 else 0)
  | .int a, .int b => a == b
  | .str a, .str b => a == b
  | _, _ => false
def inL (x : D) (xs : List D) : Option Bool := if flatD x && xs.all flatD then some (xs.any fun y => eqF y x) else none
/-- the items of a list, a tuple, a list that is a cell -/
def seqD (d : D) (μ : Mu) : Option (List D) := match d with
  | .lst xs => some xs
  | .tup xs => some xs
  | .cell n => match μ[n]? with
    | some (.lst xs) => some xs
    | _ => none
  | _ => none
def seqE (d : D) : EM (List D) := fun μ => match seqD d μ with
  | some xs => some (.ok xs, μ)
  | none => none
def inD : D → D → EM D := fun x y => match x, y with
  | .str a, .str z => match a.cps.toList with
    | [c] => pureE (.bl (decide (c ∈ z.cps.toList)))
    | _ => failE
  | x, y => bindE (seqE y) fun xs => optE ((inL x xs).map .bl)
def notInD : D → D → EM D := fun x y => bindE (inD x y) fun z => match z with
  | .bl b => pureE (.bl (!b))
  | _ => failE

section
variable {W : Wd} {S S' S1 : Ws} {H H' H1 : Hp} {σ : St} {env : Env} {μ : Mu} {Wx : WX} {α β : Type}
theorem KG.val {Q : VK} {d : D} {v : V} (hS : Sg W S H μ) (h : KG W S H σ Wx (okV W Q) (.ok d, μ)) (r : RepV W S H v d) : Q v H := h.now hS v r
/-- list or tuple -/
theorem seqD_rep {v : V} {d : D} {xs : List D} (hS : Sg W S H μ) (h : RepB W S H v d) (e : seqD d μ = some xs) : ∃ a vs, v = .ref a ∧ (SqL W.K H a vs ∨ SqT W.K H a vs) ∧ vs.length ≤ big ∧ RepVs W S H vs xs := by
  cases d with
  | lst ys =>
    cases e
    obtain ⟨a, vs, e, h1, h2, r⟩ := h.lst
    exact ⟨a, vs, e, .inl (SqL.of h1), h2, r⟩
  | tup ys =>
    cases e
    obtain ⟨a, vs, e, h1, h2, r⟩ := h.tup
    exact ⟨a, vs, e, .inr h1, h2, r⟩
  | cell n =>
    obtain ⟨a, e1, e2, e3⟩ := h.cell
    have e : (match μ[n]? with
      | some (.lst xs) => some xs
      | _ => none) = some xs := e
    cases q : μ[n]? with
    | none => rw [q] at e; cases e
    | some c =>
      rw [q] at e
      cases c with
      | obj c fs => cases e
      | dK _ => cases e
      | dT _ => cases e
      | cap _ => cases e
      | tbl _ _ => cases e
      | lst ys =>
        cases e
        obtain ⟨a', h1, h2, vs, h3, h4, r⟩ := hS.cells n _ q rfl
        rw [e2] at h1; cases h1
        exact ⟨a, vs, e1, .inl (SqL.of h3), h4, r⟩
  | _ => cases e
theorem seqE_some {d : D} {xs : List D} {r : Out (List D) × Mu} (h : seqE d μ = some r) : ∃ xs, seqD d μ = some xs ∧ r = (.ok xs, μ) := by
  unfold seqE at h
  cases e : seqD d μ with
  | none => rw [e] at h; cases h
  | some xs => rw [e] at h; cases h; exact ⟨xs, rfl, rfl⟩
/-! + -/
abbrev rAddS : R2 := fun x y H Q => ∃ i j, x = .str i ∧ y = .str j ∧ i.length + j.length ≤ sizeLine ∧ Q (.str (i ++ j)) H
def rAddAll (K : PySem.W.Frag) : R2 := fun x y H Q => (rI0 fun i j => .int (i + j)) x y H Q ∨ (rAddS x y H Q ∨ (rCatA K x y H Q ∨ rCat x y H Q))
theorem opr_add {X : Cx} (hK : X.K = W.K) : OpR X (binaryOp .Add) (rAddAll W.K) := by
  rw [← hK]; exact OpR.or op_add (OpR.or op_add_str (OpR.or op_catA op_cat))
theorem str_len (x y : Str) : (x ++ y).length = x.length + y.length := by
  have := congrArg List.length (TL.tl_append x y)
  rw [List.length_append, ← TL.len_tl, ← TL.len_tl, ← TL.len_tl] at this
  exact this
theorem os_add : OpSpec W (rAddAll W.K) addD := by
  intro x y d e S H μ res σ Wx Q hS rx ry hf hk
  unfold addD at hf
  split at hf
  · cases rx.int; cases ry.int; cases hf
    exact .inl ⟨_, _, rfl, rfl, hk.val hS (.int _)⟩
  · obtain ⟨hl, hf⟩ := guardE_some hf
    cases hf
    have hl := of_decide_eq_true hl
    obtain ⟨rfl, _⟩ := rx.str
    obtain ⟨rfl, _⟩ := ry.str
    exact .inr (.inl ⟨_, _, rfl, rfl, Nat.le_trans hl big_le, hk.val hS (.str _ (by rw [str_len]; exact hl))⟩)
  · rename_i xs ys
    obtain ⟨hl, hf⟩ := guardE_some hf
    cases hf
    have hl := of_decide_eq_true hl
    obtain ⟨a, vs, rfl, h1, h2, r1⟩ := rx.tup
    obtain ⟨b, ws, rfl, h3, h4, r2⟩ := ry.tup
    have hlen : vs.length + ws.length ≤ big := by rw [r1.length, r2.length]; exact hl
    refine .inr (.inr (.inl ⟨a, b, vs, ws, rfl, rfl, h1, h3, Nat.le_trans hlen big_le, fun q => ?_, fun hne q => ?_, fun hne hne2 p hp => ?_⟩))
    · subst q
      cases r1
      exact hk.val hS ry.tupV
    · subst q
      cases r2
      rw [List.append_nil] at hk
      exact hk.val hS rx.tupV
    · have lt : LtE S H S (upd H p (.tup (vs ++ ws))) := lt_upd hp hS.wf
      exact hk S _ lt (hS.upd hp) _ (.tup upd_same (hS.fresh hp) (by rw [List.length_append]; exact hlen) ((r1.append r2).later lt))
  · rename_i xs ys
    obtain ⟨hl, hf⟩ := guardE_some hf
    cases hf
    have hl := of_decide_eq_true hl
    obtain ⟨a, vs, rfl, h1, h2, r1⟩ := rx.lst
    obtain ⟨b, ws, rfl, h3, h4, r2⟩ := ry.lst
    have hlen : vs.length + ws.length ≤ big := by rw [r1.length, r2.length]; exact hl
    refine .inr (.inr (.inr ⟨a, b, vs, ws, rfl, rfl, h1, h3, Nat.le_trans hlen big_le, fun p hp => ?_⟩))
    have lt : LtE S H S (upd H p (.lst (vs ++ ws))) := lt_upd hp hS.wf
    exact hk S _ lt (hS.upd hp) _ (.lst upd_same (hS.fresh hp) (by rw [List.length_append]; exact hlen) ((r1.append r2).later lt))
  · cases hf
theorem os_sub : OpSpec W (rI0 fun i j => .int (i - j)) subD := by
  intro x y d e S H μ res σ Wx Q hS rx ry hf hk
  unfold subD at hf
  split at hf
  · cases rx.int; cases ry.int; cases hf
    exact ⟨_, _, rfl, rfl, hk.val hS (.int _)⟩
  · cases hf
theorem rep_repL {vs : List V} {ds : List D} (h : RepVs W S H vs ds) : ∀ k : Nat, RepVs W S H (List.replicate k vs).flatten (repL k ds)
  | 0 => .nil
  | k + 1 => by
    unfold repL
    rw [List.replicate_succ, List.replicate_succ, List.flatten_cons, List.flatten_cons]
    exact h.append (rep_repL h k)
theorem len_rep (vs : List V) : ∀ k : Nat, ((List.replicate k vs).flatten).length = vs.length * k
  | 0 => by simp
  | k + 1 => by rw [List.replicate_succ, List.flatten_cons, List.length_append, len_rep vs k, Nat.mul_succ]; omega
def rMulAll (K : PySem.W.Frag) : R2 := fun x y H Q => rI CMul (fun i j => .int (i * j)) x y H Q ∨ (rRep x y H Q ∨ (rRepT K x y H Q ∨ rRep1 K x y H Q))
theorem opr_mul {X : Cx} (hK : X.K = W.K) : OpR X (binaryOp .Mult) (rMulAll W.K) := by
  rw [← hK]; exact OpR.or op_mul (OpR.or op_rep (OpR.or op_repT op_rep1))
theorem repL_1 (xs : List D) : repL 1 xs = xs := by
  show xs ++ [] = xs
  exact List.append_nil xs
theorem os_mul : OpSpec W (rMulAll W.K) mulD := by
  intro x y d e S H μ res σ Wx Q hS rx ry hf hk
  unfold mulD at hf
  split at hf
  · obtain ⟨hl, hf⟩ := guardE_some hf
    cases hf
    cases rx.int; cases ry.int
    refine .inl ⟨_, _, rfl, rfl, ?_, hk.val hS (.int _)⟩
    unfold okMul at hl
    rcases (Bool.or_eq_true _ _).mp hl with hl | hl
    · exact .inl (of_decide_eq_true hl)
    · exact .inr (of_decide_eq_true hl)
  · rename_i xs k
    cases ry.int
    obtain ⟨hl, hf⟩ := guardE_some hf
    cases hf
    have hl := of_decide_eq_true hl
    obtain ⟨a, vs, rfl, h1, h2, r1⟩ := rx.lst
    have hlen : vs.length * k.toNat ≤ big := by rw [r1.length]; exact hl.2.2
    refine .inr (.inl ⟨a, k, vs, rfl, rfl, h1, hl.1, hl.2.1, Nat.le_trans hlen big_le, fun p hp => ?_⟩)
    have lt : LtE S H S (upd H p (.lst (List.replicate k.toNat vs).flatten)) := lt_upd hp hS.wf
    exact hk S _ lt (hS.upd hp) _ (.lst upd_same (hS.fresh hp) (by rw [len_rep]; exact hlen) ((rep_repL r1 _).later lt))
  · rename_i xs k
    cases ry.int
    obtain ⟨hl, hf⟩ := guardE_some hf
    cases hf
    have hl := of_decide_eq_true hl
    by_cases k1 : k = 1
    · subst k1
      have rt := rx.tupV
      obtain ⟨a, vs, rfl, h1, h2, r1⟩ := rx.tup
      refine .inr (.inr (.inr ⟨a, vs, rfl, rfl, h1, hk.val hS ?_⟩))
      rw [show (1 : Int).toNat = 1 from rfl, repL_1]
      exact rt
    · obtain ⟨a, vs, rfl, h1, h2, r1⟩ := rx.tup
      have hv : vs.length = xs.length := r1.length
      have hlen : vs.length * k.toNat ≤ big := by
        have : vs.length * k.toNat ≤ 1000 * 1000 := Nat.mul_le_mul (by omega) (by omega)
        exact Nat.le_trans this (by decide)
      refine .inr (.inr (.inl ⟨a, k, vs, rfl, rfl, h1, fun z => by rw [z] at hv; simp at hv; omega, by omega, hl.2.2.1, by omega, fun p hp => ?_⟩))
      have lt : LtE S H S (upd H p (.tup (List.replicate k.toNat vs).flatten)) := lt_upd hp hS.wf
      exact hk S _ lt (hS.upd hp) _ (.tup upd_same (hS.fresh hp) (by rw [len_rep]; exact hlen) ((rep_repL r1 _).later lt))
  · cases hf
theorem os_div : OpSpec W (rI CDivW fun i j => .int (i / j)) divD := by
  intro x y d e S H μ res σ Wx Q hS rx ry hf hk
  unfold divD at hf
  split at hf
  · obtain ⟨hl, hf⟩ := guardE_some hf
    cases hf
    cases rx.int; cases ry.int
    have hl := of_decide_eq_true hl
    exact ⟨_, _, rfl, rfl, wide_div (b := 64) hl.1 (by omega) (by decide) (by decide), hk.val hS (.int _)⟩
  · cases hf
theorem os_mod : OpSpec W (rI (fun _ j => 0 < j) fun i j => .int (i % j)) modD := by
  intro x y d e S H μ res σ Wx Q hS rx ry hf hk
  unfold modD at hf
  split at hf
  · obtain ⟨hl, hf⟩ := guardE_some hf
    cases hf
    cases rx.int; cases ry.int
    exact ⟨_, _, rfl, rfl, of_decide_eq_true hl, hk.val hS (.int _)⟩
  · cases hf
theorem os_pow : OpSpec W (rI CPow fun i j => .int (i ^ j.toNat)) powD := by
  intro x y d e S H μ res σ Wx Q hS rx ry hf hk
  unfold powD at hf
  split at hf
  · obtain ⟨hl, hf⟩ := guardE_some hf
    cases hf
    cases rx.int; cases ry.int
    have hl := of_decide_eq_true hl
    exact ⟨_, _, rfl, rfl, hl, hk.val hS (.int _)⟩
  · cases hf
theorem os_cmp (p : Int → Int → Bool) : OpSpec W (rI0 fun i j => .bl (p i j)) (cmpI p) := by
  intro x y d e S H μ res σ Wx Q hS rx ry hf hk
  unfold cmpI at hf
  split at hf
  · cases rx.int; cases ry.int; cases hf
    exact ⟨_, _, rfl, rfl, hk.val hS (.bl _)⟩
  · cases hf
/-! == -/
mutual
theorem lay_dp : ∀ {v : V} {d : D} {p : PyData}, RepV W S H v d → layD d = some p → Dp W.K H v p ∧ p.canLay0 = true
  | _, _, _, .non, e => by cases e; exact ⟨.non, rfl⟩
  | _, _, _, .bl b, e => by cases e; exact ⟨.bl b, rfl⟩
  | _, _, _, .int i, e => by cases e; exact ⟨.int i, rfl⟩
  | _, _, _, .str s h, e => by
    unfold layD at e
    split at e
    · cases e; rename_i q; exact ⟨.str s, by simpa [PyData.canLay0] using q⟩
    · cases e
  | _, _, _, .lst (ds := ds) h1 h2 h3 h4, e => by
    unfold layD at e
    cases q : layAll ds with
    | none => rw [q] at e; cases e
    | some ps =>
      rw [q] at e; cases e
      obtain ⟨r, z⟩ := lay_dps h4 q
      exact ⟨.lst (SqL.of h1) r, by simpa [PyData.canLay0] using z⟩
  | _, _, _, .tup (ds := ds) h1 h2 h3 h4, e => by
    unfold layD at e
    cases q : layAll ds with
    | none => rw [q] at e; cases e
    | some ps =>
      rw [q] at e; cases e
      obtain ⟨r, z⟩ := lay_dps h4 q
      exact ⟨.tup (SqT.of h1) r, by simpa [PyData.canLay0] using z⟩
  | _, _, _, .tupK (ds := ds) h1 h3 h4, e => by
    unfold layD at e
    cases q : layAll ds with
    | none => rw [q] at e; cases e
    | some ps =>
      rw [q] at e; cases e
      obtain ⟨r, z⟩ := lay_dps h4 q
      exact ⟨.tup h1.seq r, by simpa [PyData.canLay0] using z⟩
  | _, _, _, .obj _ _ _, e => by unfold layD at e; cases e
  | _, _, _, .cell _ _, e => by unfold layD at e; cases e
  | _, _, _, .scr _ _ _ _, e => by unfold layD at e; cases e
  | _, _, _, .scrK _ _, e => by unfold layD at e; cases e
  | _, _, _, .dK _ _ _ _, e => by unfold layD at e; cases e
  | _, _, _, .dT _ _ _ _, e => by unfold layD at e; cases e
  | _, _, _, .cls, e => by unfold layD at e; cases e
  | _, _, _, .err _ _ _ _ _, e => by unfold layD at e; cases e
  | _, _, _, .clo _ _ _ _ _ _, e => by unfold layD at e; cases e
  | _, _, _, .clo1 _ _ _ _ _ _ _ _, e => by unfold layD at e; cases e
theorem lay_dps : ∀ {vs : List V} {ds : List D} {ps : List PyData}, RepVs W S H vs ds → layAll ds = some ps → DpAll W.K H vs ps ∧ PyData.canLayAll0 ps = true
  | _, _, _, .nil, e => by unfold layAll at e; cases e; exact ⟨.nil, rfl⟩
  | _, _, _, .cons (d := d) (ds := ds) r t, e => by
    unfold layAll at e
    cases q1 : layD d with
    | none => rw [q1] at e; cases e
    | some p =>
      cases q2 : layAll ds with
      | none => rw [q1, q2] at e; cases e
      | some ps =>
        rw [q1, q2] at e
        cases e
        obtain ⟨a, x⟩ := lay_dp r q1
        obtain ⟨b, y⟩ := lay_dps t q2
        exact ⟨.cons a b, by simp [PyData.canLayAll0, x, y]⟩
end
theorem lay_B {v : V} {d : D} {p : PyData} (h : RepB W S H v d) (e : layD d = some p) : Dp W.K H v p ∧ p.canLay0 = true := by
  rcases h with h | ⟨a, w, c, e1, e2, e3, e4, r⟩
  · exact lay_dp h e
  · subst e1 e2
    cases c with
    | lst xs =>
      obtain ⟨vs, h1, h2, h3⟩ := r
      unfold Cell.toD layD at e
      cases q : layAll xs with
      | none => rw [q] at e; cases e
      | some ps =>
        rw [q] at e; cases e
        obtain ⟨r, z⟩ := lay_dps h3 q
        exact ⟨.lst (SqL.of h1) r, by simpa [PyData.canLay0] using z⟩
    | obj c fs => unfold Cell.toD layD at e; cases e
    | dK _ => unfold Cell.toD layD at e; cases e
    | dT _ => unfold Cell.toD layD at e; cases e
    | cap _ => unfold Cell.toD layD at e; cases e
    | tbl _ _ => unfold Cell.toD layD at e; cases e
theorem scal_rep {x y : V} {d e : D} {b : Bool} (rx : RepB W S H x d) (ry : RepB W S H y e) (h : scalD d e = some b) : scal x y = true ∧ decide (x = y) = b := by
  unfold scalD at h
  split at h <;> first
    | (cases h; done)
    | (cases h; cases rx.non; cases ry.non; exact ⟨rfl, by decide⟩)
    | (cases h; cases rx.non; cases ry.int; exact ⟨rfl, by simp⟩)
    | (cases h; cases rx.int; cases ry.non; exact ⟨rfl, by simp⟩)
    | (cases h; cases rx.non; cases ry.bl; exact ⟨rfl, by simp⟩)
    | (cases h; cases rx.bl; cases ry.non; exact ⟨rfl, by simp⟩)
    | (cases h; cases rx.non; cases ry.str.1; exact ⟨rfl, by simp⟩)
    | (cases h; cases rx.str.1; cases ry.non; exact ⟨rfl, by simp⟩)
    | (cases h; cases rx.int; cases ry.int; exact ⟨rfl, by simp⟩)
    | (cases h; cases rx.bl; cases ry.bl; exact ⟨rfl, by simp⟩)
    | (cases h; cases rx.str.1; cases ry.str.1; exact ⟨rfl, by simp⟩)
    | (cases h; cases rx.int; cases ry.str.1; exact ⟨rfl, by simp⟩)
    | (cases h; cases rx.str.1; cases ry.int; exact ⟨rfl, by simp⟩)
    | (cases h; cases rx.bl; cases ry.str.1; exact ⟨rfl, by simp⟩)
    | (cases h; cases rx.str.1; cases ry.bl; exact ⟨rfl, by simp⟩)
def rEqAll (K : PySem.W.Frag) : R2 := fun x y H Q => rEq x y H Q ∨ rEqD K x y H Q
def rNeAll (K : PySem.W.Frag) : R2 := fun x y H Q => rNe x y H Q ∨ rNeD K x y H Q
theorem opr_eq {X : Cx} (hK : X.K = W.K) (hu : X.A.units + 64 < cLine) : OpR X (compareOp .Eq) (rEqAll W.K) := by
  rw [← hK]; exact OpR.or op_eq (op_eqD hu)
theorem opr_ne {X : Cx} (hK : X.K = W.K) (hu : X.A.units + 64 < cLine) : OpR X (compareOp .NotEq) (rNeAll W.K) := by
  rw [← hK]; exact OpR.or op_ne (op_neD hu)
theorem eqD_rep {x y : V} {d e : D} {b : Bool} (rx : RepB W S H x d) (ry : RepB W S H y e) (h : eqD d e = some b) :
    (scal x y = true ∧ decide (x = y) = b) ∨ ∃ p q, Dp W.K H x p ∧ Dp W.K H y q ∧ SeqAt.shaped p = true ∧ SeqAt.shaped q = true ∧ PyData.eqv p q = b := by
  unfold eqD at h
  cases q : scalD d e with
  | some c => rw [q] at h; cases h; exact .inl (scal_rep rx ry q)
  | none =>
    rw [q] at h
    cases q1 : layD d with
    | none => rw [q1] at h; cases h
    | some p =>
      cases q2 : layD e with
      | none => rw [q1, q2] at h; cases h
      | some p' =>
        rw [q1, q2] at h
        simp only at h
        split at h
        · cases h
          rename_i hd
          obtain ⟨a, x⟩ := lay_B rx q1
          obtain ⟨b, y⟩ := lay_B ry q2
          exact .inr ⟨p, p', a, b, by simp [SeqAt.shaped, x, hd.1], by simp [SeqAt.shaped, y, hd.2], rfl⟩
        · cases h
theorem map_some {α β : Type} {o : Option α} {f : α → β} {b : β} (h : o.map f = some b) : ∃ a, o = some a ∧ f a = b := by
  cases o with
  | none => cases h
  | some a => cases h; exact ⟨a, rfl, rfl⟩
theorem os_eq : OpSpec W (rEqAll W.K) eqDD := by
  intro x y d e S H μ res σ Wx Q hS rx ry hf hk
  obtain ⟨z, hz, rfl⟩ := optE_some hf
  obtain ⟨b, hb, rfl⟩ := map_some hz
  have q := hk.val hS (.bl _)
  rcases eqD_rep rx ry hb with ⟨h1, h2⟩ | ⟨p, p', h1, h2, h3, h4, h5⟩
  · exact .inl ⟨h1, by rw [h2]; exact q⟩
  · exact .inr ⟨p, p', h1, h2, h3, h4, by rw [h5]; exact q⟩
theorem os_ne : OpSpec W (rNeAll W.K) neDD := by
  intro x y d e S H μ res σ Wx Q hS rx ry hf hk
  obtain ⟨z, hz, rfl⟩ := optE_some hf
  obtain ⟨b, hb, rfl⟩ := map_some hz
  have q := hk.val hS (.bl _)
  rcases eqD_rep rx ry hb with ⟨h1, h2⟩ | ⟨p, p', h1, h2, h3, h4, h5⟩
  · exact .inl ⟨h1, by rw [h2]; exact q⟩
  · exact .inr ⟨p, p', h1, h2, h3, h4, by rw [h5]; exact q⟩
/-! is None -/
theorem isN_rep {x y : V} {d e : D} {res : Out D × Mu} (rx : RepB W S H x d) (ry : RepB W S H y e) (h : isND d e μ = some res) : (y = .non ∧ res = (.ok (.bl (decide (x = .non))), μ)) ∨ ∃ a b : Bool, x = .bl a ∧ y = .bl b ∧ res = (.ok (.bl (decide (a = b))), μ) := by
  unfold isND at h
  split at h <;> first
    | (cases h; done)
    | (cases h; cases rx.non; cases ry.non; exact .inl ⟨rfl, rfl⟩)
    | (cases h; obtain ⟨a, rfl, _⟩ := rx.cell; cases ry.non; exact .inl ⟨rfl, by simp⟩)
    | (cases h; cases rx.bl; cases ry.non; exact .inl ⟨rfl, by simp⟩)
    | (cases h; cases rx.int; cases ry.non; exact .inl ⟨rfl, by simp⟩)
    | (cases h; cases rx.str.1; cases ry.non; exact .inl ⟨rfl, by simp⟩)
    | (cases h; obtain ⟨a, vs, rfl, _⟩ := rx.lst; cases ry.non; exact .inl ⟨rfl, by simp⟩)
    | (cases h; obtain ⟨a, vs, rfl, _⟩ := rx.tup; cases ry.non; exact .inl ⟨rfl, by simp⟩)
    | (cases h; obtain ⟨a, dx, vs, rfl, _⟩ := rx.obj; cases ry.non; exact .inl ⟨rfl, by simp⟩)
    | (cases h; exact .inr ⟨_, _, rx.bl, ry.bl, rfl⟩)
abbrev rIsN : R2 := fun x y H Q => y = .non ∧ Q (.bl (decide (x = .non))) H
abbrev rNotN : R2 := fun x y H Q => y = .non ∧ Q (.bl (!decide (x = .non))) H
abbrev rIsNB : R2 := fun x y H Q => rIsN x y H Q ∨ rIsB x y H Q
abbrev rNotNB : R2 := fun x y H Q => rNotN x y H Q ∨ rNotB x y H Q
theorem op_isNB {X : Cx} : OpR X (compareOp .Is) rIsNB := fun pins s σ H x y v u Q I rx ry h => h.elim (fun h => op_isN pins s σ H x y v u Q I rx ry h) fun h => op_isBl pins s σ H x y v u Q I rx ry h
theorem op_notNB {X : Cx} : OpR X (compareOp .IsNot) rNotNB := fun pins s σ H x y v u Q I rx ry h => h.elim (fun h => op_notN pins s σ H x y v u Q I rx ry h) fun h => op_notBl pins s σ H x y v u Q I rx ry h
theorem os_isN : OpSpec W rIsNB isND := by
  intro x y d e S H μ res σ Wx Q hS rx ry hf hk
  rcases isN_rep rx ry hf with ⟨h1, h2⟩ | ⟨a, b, h1, h2, h3⟩
  · subst h2
    exact .inl ⟨h1, hk.val hS (.bl _)⟩
  · subst h3
    exact .inr ⟨a, b, h1, h2, hk.val hS (.bl _)⟩
theorem os_notN : OpSpec W rNotNB notND := by
  intro x y d e S H μ res σ Wx Q hS rx ry hf hk
  obtain ⟨r1, hr1, hk1⟩ := KG.bind hf hk
  rcases isN_rep rx ry hr1 with ⟨h1, h2⟩ | ⟨a, b, h1, h2, h3⟩
  · subst h2
    obtain ⟨μ', g', l', hf', hk'⟩ := hk1.now hS
    cases hf'
    exact .inl ⟨h1, hk'.now g' _ (.bl _)⟩
  · subst h3
    obtain ⟨μ', g', l', hf', hk'⟩ := hk1.now hS
    cases hf'
    exact .inr ⟨a, b, h1, h2, hk'.now g' _ (.bl _)⟩
/-! in -/
theorem flat_rep {v : V} {d : D} (h : RepB W S H v d) (f : flatD d = true) : flatV v = true := by
  cases d with
  | non => rw [h.non]; rfl
  | bl b => rw [h.bl]; rfl
  | int i => rw [h.int]; rfl
  | str s => rw [h.str.1]; rfl
  | _ => cases f
theorem eqF_rep {x y : V} {d e : D} (hx : RepB W S H x d) (hy : RepB W S H y e) (fx : flatD d = true) (fy : flatD e = true) : eqV y x = eqF e d := by
  cases d <;> first
    | (cases fx; done)
    | skip
  all_goals cases e <;> first
    | (cases fy; done)
    | skip
  all_goals
    first | cases hx.non | cases hx.bl | cases hx.int | cases hx.str.1
    first | cases hy.non | cases hy.bl | cases hy.int | cases hy.str.1
    rfl
theorem flats_rep {vs : List V} {ds : List D} (h : RepVs W S H vs ds) (f : ds.all flatD = true) : vs.all flatV = true := by
  induction vs generalizing ds with
  | nil => rfl
  | cons v vs ih =>
    cases h with
    | cons r t =>
      simp only [List.all_cons, Bool.and_eq_true] at f ⊢
      exact ⟨flat_rep (.inl r) f.1, ih t f.2⟩
theorem any_rep {x : V} {d : D} (hx : RepB W S H x d) (fx : flatD d = true) {vs : List V} {ds : List D} (h : RepVs W S H vs ds) (f : ds.all flatD = true) : inV x vs = ds.any fun y => eqF y d := by
  induction vs generalizing ds with
  | nil => cases h; rfl
  | cons v vs ih =>
    cases h with
    | cons r t =>
      simp only [List.all_cons, Bool.and_eq_true] at f
      have := ih t f.2
      unfold inV at this ⊢
      rw [List.any_cons, List.any_cons, this, eqF_rep hx (.inl r) fx f.1]
abbrev rInSg : R2 := fun x y H Q => ∃ (c : Nat) (z : Str), x = .str ⟨#[c]⟩ ∧ y = .str z ∧ Q (.bl (decide (c ∈ z.cps.toList))) H
abbrev rNotInSg : R2 := fun x y H Q => ∃ (c : Nat) (z : Str), x = .str ⟨#[c]⟩ ∧ y = .str z ∧ Q (.bl (!decide (c ∈ z.cps.toList))) H
def rInAll (K : PySem.W.Frag) : R2 := fun x y H Q => rInSg x y H Q ∨ rIn K false x y H Q
def rNotInAll (K : PySem.W.Frag) : R2 := fun x y H Q => rNotInSg x y H Q ∨ rIn K true x y H Q
theorem opr_in {X : Cx} (hK : X.K = W.K) : OpR X (compareOp .In) (rInAll W.K) := by
  rw [← hK]; exact OpR.or op_in_sign op_in_seq
theorem opr_notIn {X : Cx} (hK : X.K = W.K) : OpR X (compareOp .NotIn) (rNotInAll W.K) := by
  rw [← hK]; exact OpR.or op_notIn_sign op_notIn_seq
theorem in_rep {x y : V} {d e : D} {res : Out D × Mu} (hS : Sg W S H μ) (rx : RepB W S H x d) (ry : RepB W S H y e) (h : inD d e μ = some res) :
    (∃ (c : Nat) (z : Str), x = .str ⟨#[c]⟩ ∧ y = .str z ∧ res = (.ok (.bl (decide (c ∈ z.cps.toList))), μ)) ∨
    ∃ p xs, y = .ref p ∧ (SqL W.K H p xs ∨ SqT W.K H p xs) ∧ flatV x = true ∧ xs.all flatV = true ∧ res = (.ok (.bl (inV x xs)), μ) := by
  unfold inD at h
  split at h
  · rename_i a z
    cases q : a.cps.toList with
    | nil => rw [q] at h; cases h
    | cons c t =>
      cases t with
      | cons c' t => rw [q] at h; cases h
      | nil =>
        rw [q] at h
        cases h
        obtain ⟨rfl, _⟩ := rx.str
        obtain ⟨rfl, _⟩ := ry.str
        refine .inl ⟨c, z, ?_, rfl, rfl⟩
        have : a = ⟨#[c]⟩ := Str.ext' (Array.toList_inj.mp (by rw [q]))
        rw [this]
  · unfold bindE at h
    cases q : seqE e μ with
    | none => rw [q] at h; cases h
    | some r =>
      obtain ⟨ds, hds, rfl⟩ := seqE_some (xs := []) q
      rw [q] at h
      obtain ⟨z, hz, rfl⟩ := optE_some h
      obtain ⟨b, hb, rfl⟩ := map_some hz
      unfold inL at hb
      split at hb
      · cases hb
        rename_i hfl
        rw [Bool.and_eq_true] at hfl
        obtain ⟨p, vs, rfl, hs, hl, rv⟩ := seqD_rep hS ry hds
        exact .inr ⟨p, vs, rfl, hs, flat_rep rx hfl.1, flats_rep rv hfl.2, by rw [any_rep rx hfl.1 rv hfl.2]⟩
      · cases hb
theorem os_in : OpSpec W (rInAll W.K) inD := by
  intro x y d e S H μ res σ Wx Q hS rx ry hf hk
  rcases in_rep hS rx ry hf with ⟨c, z, h1, h2, rfl⟩ | ⟨p, xs, h1, h2, h3, h4, rfl⟩
  · exact .inl ⟨c, z, h1, h2, hk.val hS (.bl _)⟩
  · exact .inr ⟨p, xs, h1, h2, h3, h4, by rw [if_neg Bool.false_ne_true]; exact hk.val hS (.bl _)⟩
theorem os_notIn : OpSpec W (rNotInAll W.K) notInD := by
  intro x y d e S H μ res σ Wx Q hS rx ry hf hk
  obtain ⟨r1, hr1, hk1⟩ := KG.bind hf hk
  rcases in_rep hS rx ry hr1 with ⟨c, z, h1, h2, rfl⟩ | ⟨p, xs, h1, h2, h3, h4, rfl⟩
  · obtain ⟨μ', g', l', hf', hk'⟩ := hk1.now hS
    cases hf'
    exact .inl ⟨c, z, h1, h2, hk'.now g' _ (.bl _)⟩
  · obtain ⟨μ', g', l', hf', hk'⟩ := hk1.now hS
    cases hf'
    exact .inr ⟨p, xs, h1, h2, h3, h4, by rw [if_pos rfl]; exact hk'.now g' _ (.bl _)⟩
end
end EG
namespace PySem
open PySem.Spec PyProof.Rows
/-! max, min of a tuple of ints -/
section
variable {prog : Program} {w : World} {A : Around} {E : Value → Shared → Prop} {s : Shared} {l : Addr} {xs : Array (Int × Tok)}
theorem iter_intTuple {Q : Value → Shared → Prop} (hl : s.heap.IsTuple l (intItems xs))
    (h : ∀ s₂ : Shared, s₂ = { s with heap := s.heap.push { cls := .type "tuple_iterator", data := .fields #[.ref l, .int 0 0] } } →
      (s₂.heap.IsTupleIter s.heap.objs.size l 0 ∧ s₂.heap.IsTuple l (intItems xs)) → (∀ b ∈ [s.heap.objs.size, l], b < s₂.heap.objs.size) → l ≠ s.heap.objs.size → Q (.ref s.heap.objs.size) s₂) :
    wpAny (model prog w) A (pyIter (.ref l)) Q E s := by
  have hlt : l < s.heap.objs.size := by obtain ⟨_, e, _⟩ := hl; exact Heap.lt_size e
  have hp : (s.heap.push { cls := .type "tuple_iterator", data := .fields #[.ref l, .int 0 0] }).IsTuple l (intItems xs) := by
    obtain ⟨o, e, r⟩ := hl
    exact ⟨o, Heap.get?_push_of_some _ e, r⟩
  refine wpAny_pyIter_tuple hl (h _ rfl ⟨⟨_, Heap.get?_push_size _ rfl, rfl, rfl⟩, hp⟩ (fun b hb => ?_) (Nat.ne_of_lt hlt))
  show b < (s.heap.push _).objs.size
  rw [Heap.size_push]
  rcases List.mem_cons.mp hb with rfl | hb
  · exact Nat.lt_succ_self _
  · rcases List.mem_cons.mp hb with rfl | hb
    · exact Nat.lt_succ_of_lt hlt
    · cases hb
theorem old_keptT {h' : Heap} (hk : ∀ b o, b ∉ [s.heap.objs.size] → (s.heap.push { cls := .type "tuple_iterator", data := .fields #[.ref l, .int 0 0] }).get? b = some o → h'.get? b = some o) :
    ∀ b o, s.heap.get? b = some o → h'.get? b = some o := fun b o e => by
  refine hk b o (fun hm => ?_) (Heap.get?_push_of_some _ e)
  rcases List.mem_cons.mp hm with e1 | hm
  · exact absurd (e1 ▸ Heap.lt_size e) (Nat.lt_irrefl _)
  · cases hm
theorem max_intTuple {Q : Value → Shared → Prop} (hh : A.handled = none) (hl : s.heap.IsTuple l (intItems xs)) (hne : 0 < xs.size)
    (h : ∀ v h' tk, (intItems xs)[argBest (fun i j => decide (numAt xs i > numAt xs j)) (xs.size - 1)]? = some v → (∀ b o, s.heap.get? b = some o → h'.get? b = some o) → Q v { s with heap := h', toks := tk }) :
    wpAny (model prog w) A (call (.builtin "max") [.ref l]) Q E s := by
  refine call_max_walk (iter_intTuple hl fun s₂ e st hfp hlI => ?_)
  subst e
  refine ⟨_, _, _, _, _, _, _, rfl, Walks.tuple (A := A.in1) hh _ l hlI (intItems xs), st, hfp, by simpa [intItems] using hne, CmpOf.ints_gt (numAt xs) (fun _ _ => intItems_at), fun v h' tk hP hk => ?_⟩
  exact h v h' tk (by simpa [intItems] using hP) (old_keptT hk)
theorem min_intTuple {Q : Value → Shared → Prop} (hh : A.handled = none) (hl : s.heap.IsTuple l (intItems xs)) (hne : 0 < xs.size)
    (h : ∀ v h' tk, (intItems xs)[argBest (fun i j => decide (numAt xs i < numAt xs j)) (xs.size - 1)]? = some v → (∀ b o, s.heap.get? b = some o → h'.get? b = some o) → Q v { s with heap := h', toks := tk }) :
    wpAny (model prog w) A (call (.builtin "min") [.ref l]) Q E s := by
  refine call_min_walk (iter_intTuple hl fun s₂ e st hfp hlI => ?_)
  subst e
  refine ⟨_, _, _, _, _, _, _, rfl, Walks.tuple (A := A.in1) hh _ l hlI (intItems xs), st, hfp, by simpa [intItems] using hne, CmpOf.ints_lt (numAt xs) (fun _ _ => intItems_at), fun v h' tk hP hk => ?_⟩
  exact h v h' tk (by simpa [intItems] using hP) (old_keptT hk)
end
end PySem
namespace L2
open PySem PySem.Spec PyProof.Rows
section
variable {prog : Program} {w : World} {A : Around} {E : Value → Shared → Prop} {s : Shared} {l : Addr} {its : List Value} {ns : List Int} {Q : Value → Shared → Prop}
theorem max_rawT (hh : A.handled = none) (hl : s.heap.IsTuple l its.toArray) (hi : IntsAre its ns) (hne : 0 < ns.length)
    (h : ∀ h' tk M t', (∀ b o, s.heap.get? b = some o → h'.get? b = some o) → M ∈ ns → (∀ a, a ∈ ns → a ≤ M) → Q (.int M t') { s with heap := h', toks := tk }) : wpAny (model prog w) A (call (.builtin "max") [.ref l]) Q E s := by
  obtain ⟨xs, e⟩ := hi.allInts.items
  have hn : numsOf (intItems xs).toList = ns := by rw [← e]; exact hi.numsOf
  rw [nums_intItems] at hn
  subst hn
  rw [e] at hl
  have hsz : 0 < xs.size := by simpa using hne
  refine PySem.max_intTuple hh hl hsz fun v h' tk hv hk => ?_
  obtain ⟨t, rfl⟩ := intItems_at hv
  obtain ⟨h1, h2⟩ := argBest_gt (numAt xs) (xs.size - 1)
  refine h h' tk _ t hk ?_ fun a ha => ?_
  · rw [numAt_eq]; exact PySem.getD_mem (by rw [List.length_map, Array.length_toList]; omega)
  · obtain ⟨j, hj, rfl⟩ := mem_getD ha
    rw [List.length_map, Array.length_toList] at hj
    rw [← numAt_eq]; exact h2 j (by omega)
theorem min_rawT (hh : A.handled = none) (hl : s.heap.IsTuple l its.toArray) (hi : IntsAre its ns) (hne : 0 < ns.length)
    (h : ∀ h' tk M t', (∀ b o, s.heap.get? b = some o → h'.get? b = some o) → M ∈ ns → (∀ a, a ∈ ns → M ≤ a) → Q (.int M t') { s with heap := h', toks := tk }) : wpAny (model prog w) A (call (.builtin "min") [.ref l]) Q E s := by
  obtain ⟨xs, e⟩ := hi.allInts.items
  have hn : numsOf (intItems xs).toList = ns := by rw [← e]; exact hi.numsOf
  rw [nums_intItems] at hn
  subst hn
  rw [e] at hl
  have hsz : 0 < xs.size := by simpa using hne
  refine PySem.min_intTuple hh hl hsz fun v h' tk hv hk => ?_
  obtain ⟨t, rfl⟩ := intItems_at hv
  obtain ⟨h1, h2⟩ := argBest_lt (numAt xs) (xs.size - 1)
  refine h h' tk _ t hk ?_ fun a ha => ?_
  · rw [numAt_eq]; exact PySem.getD_mem (by rw [List.length_map, Array.length_toList]; omega)
  · obtain ⟨j, hj, rfl⟩ := mem_getD ha
    rw [List.length_map, Array.length_toList] at hj
    rw [← numAt_eq]; exact h2 j (by omega)
end
section
variable {X : Cx}
def rMaxT (K : PySem.W.Frag) : List V → Hp → VK → Prop := fun vs H Q => ∃ (a : Addr) (ns : List Int), vs = [V.ref a] ∧ SqT K H a (ns.map V.int) ∧ 0 < ns.length ∧ ∀ m, m ∈ ns → (∀ y, y ∈ ns → y ≤ m) → Q (.int m) H
def rMinT (K : PySem.W.Frag) : List V → Hp → VK → Prop := fun vs H Q => ∃ (a : Addr) (ns : List Int), vs = [V.ref a] ∧ SqT K H a (ns.map V.int) ∧ 0 < ns.length ∧ ∀ m, m ∈ ns → (∀ y, y ∈ ns → m ≤ y) → Q (.int m) H
theorem cr_maxT (hc : X.calm = true) : CallR X (.builtin "max") (rMaxT X.K) := by
  intro pins s σ H vs us Q I r h
  obtain ⟨a, ns, rfl, hs, hne, q⟩ := h
  obtain ⟨its, rv, hl, _⟩ := I.tuple hs
  rw [Vals.ref1 r]
  exact max_rawT (I.ok.hd hc) hl rv.ints hne fun h' tk m t' hk h1 h2 => ⟨.int _, H, I.kept hk, ⟨_, rfl⟩, q m h1 h2⟩
theorem cr_minT (hc : X.calm = true) : CallR X (.builtin "min") (rMinT X.K) := by
  intro pins s σ H vs us Q I r h
  obtain ⟨a, ns, rfl, hs, hne, q⟩ := h
  obtain ⟨its, rv, hl, _⟩ := I.tuple hs
  rw [Vals.ref1 r]
  exact min_rawT (I.ok.hd hc) hl rv.ints hne fun h' tk m t' hk h1 h2 => ⟨.int _, H, I.kept hk, ⟨_, rfl⟩, q m h1 h2⟩
end
end L2
namespace EG
open PySem L2

/-! built-in functions on data -/
def lenD : List D → EM D
  | [.str s] => pureE (.int s.length)
  | [d] => bindE (seqE d) fun xs => pureE (.int xs.length)
  | _ => failE
def absD : List D → EM D
  | [.int i] => pureE (.int (if i < 0 then -i else i))
  | _ => failE
def intD : List D → EM D
  | [.int i] => pureE (.int i)
  | [.bl b] => pureE (.int (if b then 1 else 0))
  | [.str s] => guardE (decide (s.length ≤ 640)) (optE ((PySem.intText? s).map .int))
  | _ => failE
def strD : List D → EM D
  | [.int i] => guardE (decide (i.natAbs.log2 < 1920) && decide ((Str.ofString (toString i)).length ≤ big)) (pureE (.str (toString i)))
  | _ => failE
def boolD : List D → EM D
  | [.int i] => pureE (.bl (i != 0))
  | [.bl b] => pureE (.bl b)
  | _ => failE
def boolsD : List D → Option (List Bool)
  | [] => some []
  | .bl b :: r => (boolsD r).map (b :: ·)
  | _ => none
def intsD : List D → Option (List Int)
  | [] => some []
  | .int i :: r => (intsD r).map (i :: ·)
  | _ => none
/-- a list (no tuple): its items -/
def lstD (d : D) (μ : Mu) : Option (List D) := match d with
  | .lst xs => some xs
  | .cell n => match μ[n]? with
    | some (.lst xs) => some xs
    | _ => none
  | _ => none
def lstE (d : D) : EM (List D) := fun μ => match lstD d μ with
  | some xs => some (.ok xs, μ)
  | none => none
def allD : List D → EM D
  | [d] => bindE (lstE d) fun xs => optE ((boolsD xs).map fun bs => .bl (bs.all id))
  | _ => failE
def anyD : List D → EM D
  | [d] => bindE (lstE d) fun xs => optE ((boolsD xs).map fun bs => .bl (bs.any id))
  | _ => failE
def sumD : List D → EM D
  | [d] => bindE (lstE d) fun xs => optE ((intsD xs).map fun ns => .int ns.sum)
  | _ => failE
def maxL : List Int → Int
  | [] => 0
  | [x] => x
  | x :: r => max x (maxL r)
def minL : List Int → Int
  | [] => 0
  | [x] => x
  | x :: r => min x (minL r)
def maxD : List D → EM D
  | [d] => bindE (seqE d) fun xs => optE (match intsD xs with
    | some (n :: ns) => some (.int (maxL (n :: ns)))
    | _ => none)
  | [.int i, .int j] => pureE (.int (max i j))
  | _ => failE
def minD : List D → EM D
  | [d] => bindE (seqE d) fun xs => optE (match intsD xs with
    | some (n :: ns) => some (.int (minL (n :: ns)))
    | _ => none)
  | [.int i, .int j] => pureE (.int (min i j))
  | _ => failE
def sortI (ns : List Int) : List Int := ns.mergeSort fun a b => decide (a ≤ b)
def sortedD : List D → EM (List D)
  | [d] => bindE (lstE d) fun xs => match intsD xs with
    | some ns => guardE (decide (ns.length < 64)) (pureE ((sortI ns).map .int))
    | none => failE
  | _ => failE
def listD : List D → EM (List D)
  | [d] => seqE d
  | _ => failE
def tupleD : List D → EM D
  | [d] => bindE (seqE d) fun xs => pureE (.tup xs)
  | _ => failE
inductive Tag where
  | ty (n : String) | cls (c : Nat) | ex (c : Nat)
  deriving DecidableEq
def tagD (d : D) (μ : Mu) : Option Tag := match d with
  | .non => some (.ty "NoneType") | .bl _ => some (.ty "bool") | .int _ => some (.ty "int") | .str _ => some (.ty "str")
  | .lst _ => some (.ty "list") | .tup _ => some (.ty "tuple") | .obj c _ => some (.cls c)
  | .cell n => match μ[n]? with
    | some (.lst _) => some (.ty "list")
    | some (.obj c _) => some (.cls c)
    | _ => none
  | _ => none
/-- the built-in classes met -/
def tyTab (a b : String) : Option Bool :=
  if a = "bool" ∧ b = "int" then some true else
  if ["NoneType", "bool", "int", "str", "list", "tuple"].contains a && ["bool", "int", "str", "list", "tuple"].contains b then some (a == b) else none
abbrev Isi := Tag → Tag → Option Bool
def isi1 (T : Isi) (t c : Tag) : Option Bool := match t, c with
  | .ty a, .ty b => tyTab a b
  | t, c => T t c
def isiAny (T : Isi) (t : Tag) : List Tag → Option Bool
  | [] => some false
  | c :: r => match isi1 T t c with
    | some true => some true
    | some false => isiAny T t r
    | none => none
def isiE (T : Isi) (cs : List Tag) (d : D) : EM D := fun μ => match tagD d μ with
  | some t => match isiAny T t cs with
    | some b => some (.ok (.bl b), μ)
    | none => none
  | none => none

section
variable {W : Wd} {S S' S1 : Ws} {H H' H1 : Hp} {σ : St} {env : Env} {μ : Mu} {Wx : WX} {α β : Type}
theorem RepBs.one {vs : List V} {d : D} (h : RepBs W S H vs [d]) : ∃ v, vs = [v] ∧ RepB W S H v d := by
  cases h with | cons r t => cases t; exact ⟨_, rfl, r⟩
theorem RepBs.two {vs : List V} {d e : D} (h : RepBs W S H vs [d, e]) : ∃ v w, vs = [v, w] ∧ RepB W S H v d ∧ RepB W S H w e := by
  cases h with | cons r t => cases t with | cons r2 t => cases t; exact ⟨_, _, rfl, r, r2⟩
theorem seqE_now {d : D} {g : List D → EM α} {ok : α → Ws → Hp → Prop} {r : Out α × Mu} (h : bindE (seqE d) g μ = some r) : ∃ xs, seqD d μ = some xs ∧ g xs μ = some r := by
  unfold bindE at h
  cases q : seqE d μ with
  | none => rw [q] at h; cases h
  | some z =>
    obtain ⟨xs, e, rfl⟩ := seqE_some (xs := []) q
    rw [q] at h
    exact ⟨xs, e, h⟩
theorem lstE_now {d : D} {g : List D → EM α} {r : Out α × Mu} (h : bindE (lstE d) g μ = some r) : ∃ xs, lstD d μ = some xs ∧ g xs μ = some r := by
  unfold bindE lstE at h
  cases q : lstD d μ with
  | none => rw [q] at h; cases h
  | some xs => rw [q] at h; exact ⟨xs, rfl, h⟩
theorem lstD_rep {v : V} {d : D} {xs : List D} (hS : Sg W S H μ) (h : RepB W S H v d) (e : lstD d μ = some xs) : ∃ a vs, v = .ref a ∧ H a = some (.lst vs) ∧ vs.length ≤ big ∧ RepVs W S H vs xs := by
  cases d with
  | lst ys =>
    cases e
    exact h.lst
  | cell n =>
    obtain ⟨a, e1, e2, e3⟩ := h.cell
    have e : (match μ[n]? with
      | some (.lst xs) => some xs
      | _ => none) = some xs := e
    cases q : μ[n]? with
    | none => rw [q] at e; cases e
    | some c =>
      rw [q] at e
      cases c with
      | obj c fs => cases e
      | dK _ => cases e
      | dT _ => cases e
      | cap _ => cases e
      | tbl _ _ => cases e
      | lst ys =>
        cases e
        obtain ⟨a', h1, h2, vs, h3, h4, r⟩ := hS.cells n _ q rfl
        rw [e2] at h1; cases h1
        exact ⟨a, vs, e1, h3, h4, r⟩
  | _ => cases e
theorem cs_len {X : Cx} (hK : X.K = W.K) : CallSpec W (fun xs H Q => ∃ x n, xs = [x] ∧ LenV X.K x H n ∧ Q (.int n) H) lenD := by
  intro vs ds S H μ res σ Wx Q hS r hf hk
  rw [hK]
  unfold lenD at hf
  split at hf
  · obtain ⟨v, rfl, rv⟩ := r.one
    cases hf
    obtain ⟨rfl, h2⟩ := rv.str
    exact ⟨_, _, rfl, ⟨Nat.le_trans h2 big_le, rfl⟩, hk.val hS (.int _)⟩
  · obtain ⟨v, rfl, rv⟩ := r.one
    obtain ⟨xs, e, hf⟩ := seqE_now (ok := okV W Q) hf
    cases hf
    obtain ⟨a, ws, rfl, h1, h2, h3⟩ := seqD_rep hS rv e
    refine ⟨_, ws.length, rfl, ?_, ?_⟩
    · rcases h1 with h1 | h1
      · exact .inl ⟨ws, h1, rfl⟩
      · exact .inr ⟨ws, h1, rfl⟩
    · rw [h3.length]; exact hk.val hS (.int _)
  · cases hf
theorem cs_abs : CallSpec W (fun xs H Q => ∃ i, xs = [.int i] ∧ Q (.int (if i < 0 then -i else i)) H) absD := by
  intro vs ds S H μ res σ Wx Q hS r hf hk
  unfold absD at hf
  split at hf
  · obtain ⟨v, rfl, rv⟩ := r.one
    cases hf; cases rv.int
    exact ⟨_, rfl, hk.val hS (.int _)⟩
  · cases hf
def rIntAll : List V → Hp → VK → Prop := fun xs H Q => ((∃ i, xs = [.int i] ∧ Q (.int i) H) ∨ ∃ k, xs = [.bl k] ∧ Q (.int (if k then 1 else 0)) H) ∨ ∃ a n, xs = [.str a] ∧ PySem.intText? a = some n ∧ a.length ≤ 640 ∧ Q (.int n) H
theorem cr_int {X : Cx} : CallR X (.type "int") rIntAll := CallR.or call_int1 call_int_str
theorem cs_int : CallSpec W rIntAll intD := by
  intro vs ds S H μ res σ Wx Q hS r hf hk
  unfold intD at hf
  split at hf
  · obtain ⟨v, rfl, rv⟩ := r.one
    cases hf; cases rv.int
    exact .inl (.inl ⟨_, rfl, hk.val hS (.int _)⟩)
  · obtain ⟨v, rfl, rv⟩ := r.one
    cases hf; cases rv.bl
    exact .inl (.inr ⟨_, rfl, hk.val hS (.int _)⟩)
  · obtain ⟨v, rfl, rv⟩ := r.one
    obtain ⟨hl, hf⟩ := guardE_some hf
    obtain ⟨z, hz, rfl⟩ := optE_some hf
    obtain ⟨n, hn, rfl⟩ := map_some hz
    obtain ⟨rfl, _⟩ := rv.str
    exact .inr ⟨_, n, rfl, hn, of_decide_eq_true hl, hk.val hS (.int _)⟩
  · cases hf
theorem cs_str : CallSpec W (fun xs H Q => ∃ i, xs = [.int i] ∧ i.natAbs.log2 < 1920 ∧ Q (.str (toString i)) H) strD := by
  intro vs ds S H μ res σ Wx Q hS r hf hk
  unfold strD at hf
  split at hf
  · obtain ⟨v, rfl, rv⟩ := r.one
    obtain ⟨hl, hf⟩ := guardE_some hf
    cases hf; cases rv.int
    rw [Bool.and_eq_true] at hl
    exact ⟨_, rfl, of_decide_eq_true hl.1, hk.val hS (.str _ (of_decide_eq_true hl.2))⟩
  · cases hf
theorem cs_bool : CallSpec W (fun xs H Q => (∃ i, xs = [.int i] ∧ Q (.bl (i != 0)) H) ∨ ∃ k, xs = [.bl k] ∧ Q (.bl k) H) boolD := by
  intro vs ds S H μ res σ Wx Q hS r hf hk
  unfold boolD at hf
  split at hf
  · obtain ⟨v, rfl, rv⟩ := r.one
    cases hf; cases rv.int
    exact .inl ⟨_, rfl, hk.val hS (.bl _)⟩
  · obtain ⟨v, rfl, rv⟩ := r.one
    cases hf; cases rv.bl
    exact .inr ⟨_, rfl, hk.val hS (.bl _)⟩
  · cases hf
theorem bools_rep : ∀ {vs : List V} {ds : List D} {bs : List Bool}, RepVs W S H vs ds → boolsD ds = some bs → vs = bs.map V.bl
  | _, _, _, .nil, e => by cases e; rfl
  | _, _, _, .cons (d := d) (ds := ds) r t, e => by
    cases d with
    | bl b =>
      obtain ⟨q, hq, rfl⟩ := map_some e
      cases r
      rw [List.map_cons, bools_rep t hq]
    | _ => cases e
theorem ints_rep : ∀ {vs : List V} {ds : List D} {bs : List Int}, RepVs W S H vs ds → intsD ds = some bs → vs = bs.map V.int
  | _, _, _, .nil, e => by cases e; rfl
  | _, _, _, .cons (d := d) (ds := ds) r t, e => by
    cases d with
    | int b =>
      obtain ⟨q, hq, rfl⟩ := map_some e
      cases r
      rw [List.map_cons, ints_rep t hq]
    | _ => cases e
theorem cs_all : CallSpec W (rAll W.K) allD := by
  intro vs ds S H μ res σ Wx Q hS r hf hk
  unfold allD at hf
  split at hf
  · obtain ⟨v, rfl, rv⟩ := r.one
    obtain ⟨xs, e, hf⟩ := lstE_now hf
    obtain ⟨z, hz, rfl⟩ := optE_some hf
    obtain ⟨bs, hb, rfl⟩ := map_some hz
    obtain ⟨a, ws, rfl, h1, h2, h3⟩ := lstD_rep hS rv e
    cases bools_rep h3 hb
    exact ⟨a, bs, rfl, SqL.of h1, hk.val hS (.bl _)⟩
  · cases hf
theorem cs_any : CallSpec W (rAny W.K) anyD := by
  intro vs ds S H μ res σ Wx Q hS r hf hk
  unfold anyD at hf
  split at hf
  · obtain ⟨v, rfl, rv⟩ := r.one
    obtain ⟨xs, e, hf⟩ := lstE_now hf
    obtain ⟨z, hz, rfl⟩ := optE_some hf
    obtain ⟨bs, hb, rfl⟩ := map_some hz
    obtain ⟨a, ws, rfl, h1, h2, h3⟩ := lstD_rep hS rv e
    cases bools_rep h3 hb
    exact ⟨a, bs, rfl, SqL.of h1, hk.val hS (.bl _)⟩
  · cases hf
theorem cs_sum : CallSpec W (rSum W.K) sumD := by
  intro vs ds S H μ res σ Wx Q hS r hf hk
  unfold sumD at hf
  split at hf
  · obtain ⟨v, rfl, rv⟩ := r.one
    obtain ⟨xs, e, hf⟩ := lstE_now hf
    obtain ⟨z, hz, rfl⟩ := optE_some hf
    obtain ⟨bs, hb, rfl⟩ := map_some hz
    obtain ⟨a, ws, rfl, h1, h2, h3⟩ := lstD_rep hS rv e
    cases ints_rep h3 hb
    exact ⟨a, bs, rfl, SqL.of h1, hk.val hS (.int _)⟩
  · cases hf
theorem maxL_mem : ∀ (ns : List Int), ns ≠ [] → maxL ns ∈ ns
  | [], h => (h rfl).elim
  | [x], _ => by simp [maxL]
  | x :: y :: r, _ => by
    have ih := maxL_mem (y :: r) (by simp)
    show max x (maxL (y :: r)) ∈ _
    by_cases h : x ≤ maxL (y :: r)
    · rw [Int.max_eq_right h]; exact List.mem_cons_of_mem _ ih
    · rw [Int.max_eq_left (by omega)]; exact List.mem_cons_self
theorem le_maxL : ∀ (ns : List Int) (y : Int), y ∈ ns → y ≤ maxL ns
  | [x], y, h => by simp at h; subst h; exact Int.le_refl _
  | x :: z :: r, y, h => by
    show y ≤ max x (maxL (z :: r))
    rcases List.mem_cons.mp h with rfl | h
    · exact Int.le_max_left _ _
    · exact Int.le_trans (le_maxL (z :: r) y h) (Int.le_max_right _ _)
theorem minL_mem : ∀ (ns : List Int), ns ≠ [] → minL ns ∈ ns
  | [], h => (h rfl).elim
  | [x], _ => by simp [minL]
  | x :: y :: r, _ => by
    have ih := minL_mem (y :: r) (by simp)
    show min x (minL (y :: r)) ∈ _
    by_cases h : x ≤ minL (y :: r)
    · rw [Int.min_eq_left h]; exact List.mem_cons_self
    · rw [Int.min_eq_right (by omega)]; exact List.mem_cons_of_mem _ ih
theorem minL_le : ∀ (ns : List Int) (y : Int), y ∈ ns → minL ns ≤ y
  | [x], y, h => by simp at h; subst h; exact Int.le_refl _
  | x :: z :: r, y, h => by
    show min x (minL (z :: r)) ≤ y
    rcases List.mem_cons.mp h with rfl | h
    · exact Int.min_le_left _ _
    · exact Int.le_trans (Int.min_le_right _ _) (minL_le (z :: r) y h)
def rMaxAll (K : PySem.W.Frag) : List V → Hp → VK → Prop := fun vs H Q => rMax K vs H Q ∨ rMaxT K vs H Q ∨ ∃ i j, vs = [.int i, .int j] ∧ Q (.int (if j > i then j else i)) H
def rMinAll (K : PySem.W.Frag) : List V → Hp → VK → Prop := fun vs H Q => rMin K vs H Q ∨ rMinT K vs H Q ∨ ∃ i j, vs = [.int i, .int j] ∧ Q (.int (if j < i then j else i)) H
theorem cr_max' {X : Cx} (hc : X.calm = true) : CallR X (.builtin "max") (rMaxAll X.K) := CallR.or (cr_max hc) (CallR.or (cr_maxT hc) (call_max2 hc))
theorem cr_min' {X : Cx} (hc : X.calm = true) : CallR X (.builtin "min") (rMinAll X.K) := CallR.or (cr_min hc) (CallR.or (cr_minT hc) (call_min2 hc))
theorem cs_max : CallSpec W (rMaxAll W.K) maxD := by
  intro vs ds S H μ res σ Wx Q hS r hf hk
  unfold maxD at hf
  split at hf
  · obtain ⟨v, rfl, rv⟩ := r.one
    obtain ⟨xs, e, hf⟩ := seqE_now (ok := fun _ _ _ => True) hf
    obtain ⟨z, hz, rfl⟩ := optE_some hf
    obtain ⟨a, ws, rfl, h1, h2, h3⟩ := seqD_rep hS rv e
    split at hz
    · rename_i n ns hb
      cases hz
      cases ints_rep h3 hb
      have fin : ∀ m, m ∈ n :: ns → (∀ y, y ∈ n :: ns → y ≤ m) → Q (.int m) H := fun m hm hy => by
        have e : m = maxL (n :: ns) := Int.le_antisymm (le_maxL _ _ hm) (hy _ (maxL_mem _ (by simp)))
        rw [e]
        exact hk.val hS (.int _)
      rcases h1 with h1 | h1
      · exact .inl ⟨a, n :: ns, rfl, h1, by simp, fin⟩
      · exact .inr (.inl ⟨a, n :: ns, rfl, h1, by simp, fin⟩)
    · cases hz
  · obtain ⟨v, w, rfl, r1, r2⟩ := r.two
    cases hf; cases r1.int; cases r2.int
    rename_i i j
    refine .inr (.inr ⟨i, j, rfl, ?_⟩)
    have e : (if j > i then j else i) = max i j := by
      rw [Int.max_def]; split <;> split <;> omega
    rw [e]
    exact hk.val hS (.int _)
  · cases hf
theorem cs_min : CallSpec W (rMinAll W.K) minD := by
  intro vs ds S H μ res σ Wx Q hS r hf hk
  unfold minD at hf
  split at hf
  · obtain ⟨v, rfl, rv⟩ := r.one
    obtain ⟨xs, e, hf⟩ := seqE_now (ok := fun _ _ _ => True) hf
    obtain ⟨z, hz, rfl⟩ := optE_some hf
    obtain ⟨a, ws, rfl, h1, h2, h3⟩ := seqD_rep hS rv e
    split at hz
    · rename_i n ns hb
      cases hz
      cases ints_rep h3 hb
      have fin : ∀ m, m ∈ n :: ns → (∀ y, y ∈ n :: ns → m ≤ y) → Q (.int m) H := fun m hm hy => by
        have e : m = minL (n :: ns) := Int.le_antisymm (hy _ (minL_mem _ (by simp))) (minL_le _ _ hm)
        rw [e]
        exact hk.val hS (.int _)
      rcases h1 with h1 | h1
      · exact .inl ⟨a, n :: ns, rfl, h1, by simp, fin⟩
      · exact .inr (.inl ⟨a, n :: ns, rfl, h1, by simp, fin⟩)
    · cases hz
  · obtain ⟨v, w, rfl, r1, r2⟩ := r.two
    cases hf; cases r1.int; cases r2.int
    rename_i i j
    refine .inr (.inr ⟨i, j, rfl, ?_⟩)
    have e : (if j < i then j else i) = min i j := by
      rw [Int.min_def]; split <;> split <;> omega
    rw [e]
    exact hk.val hS (.int _)
  · cases hf
/-- a new list laid: what okL wants -/
theorem okL_new {Q : VK} {H0 : Hp} {xs : List D} {vs : List V} {p : Addr} (hS : Sg W S H μ) (hm : ∀ a, H0 a ≠ none → H a ≠ none) (hk : KG W S H σ Wx (okL W Q H0) (.ok xs, μ)) (hp : H p = none) (hl : vs.length ≤ big) (r : RepVs W S H vs xs) : Q (.ref p) (upd H p (.lst vs)) := by
  have lt : LtE S H (S.set p (some .out)) (upd H p (.lst vs)) := lt_new hp hS.wf
  refine hk (S.set p (some .out)) _ lt (hS.new hp) p vs ?_ Ws.set_same upd_same hl (r.later lt)
  cases e : H0 p with
  | none => rfl
  | some o => exact absurd hp (hm p (by rw [e]; exact fun z => nomatch z))
theorem reps_ints (ns : List Int) : RepVs W S H (ns.map V.int) (ns.map D.int) := by
  induction ns with
  | nil => exact .nil
  | cons n ns ih => exact .cons (.int n) ih
theorem cs_sorted : CallSpecL W (rSorted W.K) sortedD := by
  intro vs ds S H μ res σ Wx Q H0 hS hm r hf hk
  unfold sortedD at hf
  split at hf
  · obtain ⟨v, rfl, rv⟩ := r.one
    obtain ⟨xs, e, hf⟩ := lstE_now hf
    obtain ⟨a, ws, rfl, h1, h2, h3⟩ := lstD_rep hS rv e
    cases hb : intsD xs with
    | none => rw [hb] at hf; cases hf
    | some ns =>
      rw [hb] at hf
      obtain ⟨hl, hf⟩ := guardE_some hf
      cases hf
      cases ints_rep h3 hb
      refine ⟨a, ns, rfl, SqL.of h1, of_decide_eq_true hl, fun ns' p hp hs hn => ?_⟩
      have e : ns' = sortI ns := by
        refine PySem.W.ksm_same (hp.trans (List.mergeSort_perm _ _).symm) hs ?_
        have := List.pairwise_mergeSort (le := fun a b : Int => decide (a ≤ b)) (by intro a b c h1 h2; simp at *; omega) (by intro a b; simp; omega) ns
        exact this.imp fun h => by simpa using h
      subst e
      refine okL_new hS hm hk hn ?_ (reps_ints _)
      rw [List.length_map, show (sortI ns).length = ns.length from List.length_mergeSort _]
      rw [List.length_map] at h2
      exact h2
  · cases hf
theorem cs_list : CallSpecL W (fun xs H Q => ∃ p ys, xs = [.ref p] ∧ (SqL W.K H p ys ∨ SqT W.K H p ys) ∧ ∀ l, H l = none → Q (.ref l) (upd H l (.lst ys))) listD := by
  intro vs ds S H μ res σ Wx Q H0 hS hm r hf hk
  unfold listD at hf
  split at hf
  · obtain ⟨v, rfl, rv⟩ := r.one
    obtain ⟨xs, e, rfl⟩ := seqE_some (xs := []) hf
    obtain ⟨a, ws, rfl, h1, h2, h3⟩ := seqD_rep hS rv e
    exact ⟨a, ws, rfl, h1, fun l hl => okL_new hS hm hk hl h2 h3⟩
  · cases hf
theorem cs_tuple : CallSpec W (fun xs H Q => ∃ p ys, xs = [.ref p] ∧ ((SqL W.K H p ys ∧ ∀ l, H l = none → Q (.ref l) (upd H l (.tup ys))) ∨ (SqT W.K H p ys ∧ Q (.ref p) H))) tupleD := by
  intro vs ds S H μ res σ Wx Q hS r hf hk
  unfold tupleD at hf
  split at hf
  · obtain ⟨v, rfl, rv⟩ := r.one
    obtain ⟨xs, e, hf⟩ := seqE_now (ok := okV W Q) hf
    cases hf
    rename_i d
    cases d with
    | tup ys =>
      cases e
      obtain ⟨a, ws, e1, h1, h2, h3⟩ := rv.tup
      subst e1
      exact ⟨a, ws, rfl, .inr ⟨h1, hk.val hS rv.tupV⟩⟩
    | _ =>
      first
        | (obtain ⟨a, ws, rfl, h1, h2, h3⟩ := lstD_rep (xs := xs) hS rv e
           refine ⟨a, ws, rfl, .inl ⟨SqL.of h1, fun l hl => ?_⟩⟩
           have lt : LtE S H S (upd H l (.tup ws)) := lt_upd hl hS.wf
           exact hk S _ lt (hS.upd hl) _ (.tup upd_same (hS.fresh hl) h2 (h3.later lt)))
        | cases e
  · cases hf
end
end EG
namespace EG
open PySem L2

/-! isinstance -/
structure ClsOk (W : Wd) (c : Nat) : Prop where
  cl : Cls W.K (W.ca c)
  ha : PySem.W.findIn W.K (.ref (W.ca c)) "__class__" = some (some (.builtin "object.__class__"))
  hn : PySem.W.specialIn W.K (.builtin "object.__class__") "__get__" = some (some (.builtin "getset_descriptor.__get__"))
  htk : PySem.W.takesIn W.K (.builtin "object.__class__") = some true
  hob : PySem.W.mroIn W.K (W.ca c) (.type "object") = some true
def tagV (W : Wd) : Tag → Value
  | .ty n => .type n
  | .cls c => .ref (W.ca c)
  | .ex c => .ref (W.ca c)
def tagC (W : Wd) : Tag → V
  | .ty n => .ty n
  | .cls c => .ref (W.ca c)
  | .ex c => .ref (W.ca c)
structure IsiOk (W : Wd) (T : Isi) : Prop where
  one : ∀ t c b, T t c = some b → PySem.W.kitOne W.K (tagV W t) (tagV W c) = some b
  cls : ∀ k c b, T (.cls k) c = some b → ClsOk W k
theorem clsV_of (W : Wd) (t : Tag) : ClsV (tagC W t) (tagV W t) := by
  cases t with
  | ty n => exact .ty n
  | cls c => exact .own _
  | ex c => exact .own _
theorem tyTab_ok {a b : String} {r : Bool} (h : tyTab a b = some r) : kitB a b = some r := by
  unfold tyTab at h
  split at h
  · rename_i e
    obtain ⟨rfl, rfl⟩ := e
    cases h
    decide +kernel
  · split at h
    · rename_i e1 e
      rw [Bool.and_eq_true] at e
      obtain ⟨ha, hb⟩ := e
      have ha : a ∈ ["NoneType", "bool", "int", "str", "list", "tuple"] := by simpa using ha
      have hb : b ∈ ["bool", "int", "str", "list", "tuple"] := by simpa using hb
      simp only [List.mem_cons, List.not_mem_nil, or_false] at ha hb
      cases h
      rcases ha with rfl | rfl | rfl | rfl | rfl | rfl <;> rcases hb with rfl | rfl | rfl | rfl | rfl <;> first
        | decide +kernel
        | exact absurd ⟨rfl, rfl⟩ e1
    · cases h
section
variable {W : Wd} {S S' S1 : Ws} {H H' H1 : Hp} {σ : St} {env : Env} {μ : Mu} {Wx : WX} {α β : Type} {T : Isi}
theorem isi1_ok (hT : IsiOk W T) {t c : Tag} {b : Bool} (h : isi1 T t c = some b) : PySem.W.kitOne W.K (tagV W t) (tagV W c) = some b := by
  unfold isi1 at h
  split at h
  · exact kit_ty (tyTab_ok h)
  · exact hT.one _ _ _ h
theorem isiAny_ok (hT : IsiOk W T) {t : Tag} : ∀ {cs : List Tag} {b : Bool}, isiAny T t cs = some b → PySem.W.kitAny W.K (tagV W t) (cs.map (tagV W)) = some b
  | [], b, h => h
  | c :: r, b, h => by
    unfold isiAny at h
    show (match PySem.W.kitOne W.K (tagV W t) (tagV W c) with
      | some true => some true
      | some false => PySem.W.kitAny W.K (tagV W t) (r.map (tagV W))
      | none => none) = some b
    cases q : isi1 T t c with
    | none => rw [q] at h; cases h
    | some b' =>
      rw [q] at h
      rw [isi1_ok hT q]
      cases b' with
      | true => exact h
      | false => exact isiAny_ok hT h
theorem tag_rep {v : V} {d : D} {t : Tag} (hS : Sg W S H μ) (r : RepB W S H v d) (h : tagD d μ = some t) (hc : ∀ c, t = .cls c → ClsOk W c) : TyX W.K H v (tagV W t) := by
  unfold tagD at h
  split at h
  · cases h; rw [r.non]; exact .base .non
  · cases h; rw [r.bl]; exact .base (.bl _)
  · cases h; rw [r.int]; exact .base (.int _)
  · cases h; rw [r.str.1]; exact .base (.str _)
  · cases h; obtain ⟨a, vs, rfl, h1, _⟩ := r.lst; exact .base (.lst h1)
  · cases h
    cases r.tupV with
    | tup h1 h2 h3 h4 => exact .base (.tup h1)
    | tupK h1 h2 h3 =>
      obtain (h1 | ⟨_, h1⟩) | ⟨o, its, n, k1, k2, _⟩ := h1
      · cases h1
      · cases h1
      exact .kTuple k1 k2
  · cases h
    obtain ⟨a, dx, vs, rfl, h1, _⟩ := r.obj
    have C := hc _ rfl
    exact .base (.ins h1 C.cl C.ha C.hn C.htk C.hob)
  · obtain ⟨a, rfl, e1, e2⟩ := r.cell
    split at h
    · rename_i q
      cases h
      obtain ⟨a', h1, h2, vs, h3, h4, _⟩ := hS.cells _ _ q rfl
      rw [e1] at h1; cases h1
      exact .base (.lst h3)
    · rename_i q
      cases h
      obtain ⟨a', h1, h2, dx, vs, h3, _⟩ := hS.cells _ _ q rfl
      rw [e1] at h1; cases h1
      have C := hc _ rfl
      exact .base (.ins h3 C.cl C.ha C.hn C.htk C.hob)
    · cases h
  · cases h
def fIsi (T : Isi) (cs : List Tag) (f : Env → EM D) : Env → EM D := fun env => bindE (f env) (isiE T cs)
theorem isiE_some {cs : List Tag} {d : D} {r : Out D × Mu} (h : isiE T cs d μ = some r) : ∃ t b, tagD d μ = some t ∧ isiAny T t cs = some b ∧ r = (.ok (.bl b), μ) := by
  unfold isiE at h
  cases q : tagD d μ with
  | none => rw [q] at h; cases h
  | some t =>
    rw [q] at h
    simp only at h
    cases q2 : isiAny T t cs with
    | none => rw [q2] at h; cases h
    | some b => rw [q2] at h; cases h; exact ⟨t, b, rfl, q2, rfl⟩
theorem isi_cls {t c : Tag} {cs : List Tag} {b : Bool} (hT : IsiOk W T) (h : isiAny T t (c :: cs) = some b) : ∀ k, t = .cls k → ClsOk W k := by
  intro k e
  subst e
  unfold isiAny at h
  cases q : isi1 T (.cls k) c with
  | none => rw [q] at h; cases h
  | some b' => exact hT.cls k c b' (by unfold isi1 at q; exact q)
/-- isinstance(a, T) -/
theorem ev_isi {X : Cx} (hK : X.K = W.K) (hT : IsiOk W T) {a cls : Expr} {p pos : Pos} {c : Tag} {f : Env → EM D} (hg : Gl X "isinstance") (hm : X.mg "isinstance" = none) (ha : PE X a (tEvB W Wx f)) (hc : PE X cls (tC (tagC W c)))
    (h1 : starEach [a, cls] X.env = (false, eval a X.env) :: starEach [cls] X.env) (h2 : starEach [cls] X.env = [(false, eval cls X.env)]) : PE X (.Call (.Name "isinstance" p) [a, cls] [] pos) (tEv W Wx (fIsi T [c] f)) := by
  refine PE.imp (pe_callB call_isi hg hm PyProof.Rows.boot_isinstance (pa_cons ha (pa_cons hc pa_nil h2) h1) (he := h1) (hpl := by rw [h2]; rfl)) fun σ H Q ⟨S, μ, env, res, hS, hE, hf, hk⟩ => ?_
  refine tG.bind hS hE hf hk fun d μ1 S1 H1 l1 g1 e1 hf1 hk1 v rv => ?_
  obtain ⟨t, b, q1, q2, rfl⟩ := isiE_some hf1
  refine ⟨v, _, tagV W t, tagV W c, b, rfl, clsV_of W c, ?_, ?_, hk1.val g1 (.bl b)⟩
  · rw [hK]; exact tag_rep g1 rv q1 (isi_cls hT q2)
  · rw [hK]
    have := isiAny_ok hT q2
    simp only [List.map_cons, List.map_nil, PySem.W.kitAny] at this
    cases z : PySem.W.kitOne W.K (tagV W t) (tagV W c) with
    | none => rw [z] at this; cases this
    | some b' => rw [z] at this; cases b' <;> exact this
/-- the classes of a tuple display -/
inductive ClsEs (W : Wd) (X : Cx) : List Expr → List Tag → Prop where
  | nil : ClsEs W X [] []
  | cons {e : Expr} {es : List Expr} {t : Tag} {ts : List Tag} : PE X e (tC (tagC W t)) → starEach (e :: es) X.env = (false, eval e X.env) :: starEach es X.env → ClsEs W X es ts → ClsEs W X (e :: es) (t :: ts)
def tConst (vs : List V) : TA := fun _ H Q => Q vs H
theorem clsEs_pa {X : Cx} {es : List Expr} {ts : List Tag} (h : ClsEs W X es ts) : PA X es (tConst (ts.map (tagC W))) := by
  induction h with
  | nil => exact PA.imp pa_nil fun σ H Q h => h
  | cons h1 h2 _ ih => exact PA.imp (pa_cons h1 ih h2) fun σ H Q h => h
theorem clsV_all (W : Wd) : ∀ ts : List Tag, Paired ClsV (ts.map (tagC W)) (ts.map (tagV W))
  | [] => .nil
  | t :: ts => .cons (clsV_of W t) (clsV_all W ts)
/-- isinstance(a, (T1, T2, ..)) -/
theorem ev_isiT {X : Cx} (hK : X.K = W.K) (hT : IsiOk W T) {a : Expr} {es : List Expr} {kk : Nat} {tp p pos : Pos} {cs : List Tag} {f : Env → EM D} (hg : Gl X "isinstance") (hm : X.mg "isinstance" = none) (ha : PE X a (tEvB W Wx f)) (hc : ClsEs W X es cs)
    (hne : cs ≠ []) (hlen : cs.length ≤ 100)
    (h1 : starEach [a, .Tuple es kk tp] X.env = (false, eval a X.env) :: starEach [.Tuple es kk tp] X.env) : PE X (.Call (.Name "isinstance" p) [a, .Tuple es kk tp] [] pos) (tEv W Wx (fIsi T cs f)) := by
  have h2 : starEach [.Tuple es kk tp] X.env = [(false, eval (.Tuple es kk tp) X.env)] := rfl
  refine PE.imp (pe_callB call_isiT hg hm PyProof.Rows.boot_isinstance (pa_cons ha (pa_cons (pe_tup (clsEs_pa hc)) pa_nil h2) h1) (he := h1) (hpl := by rw [h2]; rfl)) fun σ H Q ⟨S, μ, env, res, hS, hE, hf, hk⟩ => ?_
  refine tG.bind hS hE hf hk fun d μ1 S1 H1 l1 g1 e1 hf1 hk1 v rv => ?_
  obtain ⟨t, b, q1, q2, rfl⟩ := isiE_some hf1
  refine ⟨by rw [List.length_map]; exact Nat.le_trans hlen (by rw [sizeLine_eq]; decide), fun tp hp => ?_⟩
  have lt : LtE S1 H1 S1 (upd H1 tp (.tup (cs.map (tagC W)))) := lt_upd hp g1.wf
  refine ⟨v, tp, _, tagV W t, cs.map (tagV W), b, rfl, upd_same, clsV_all W cs, ?_, ?_, hk1 S1 _ lt (g1.upd hp) _ (.bl b)⟩
  · rw [hK]
    cases cs with
    | nil => exact absurd rfl hne
    | cons c cs => exact tag_rep (g1.upd hp) (rv.laterE lt) q1 (isi_cls hT q2)
  · rw [hK]; exact isiAny_ok hT q2

/-! built-in functions of one or more arguments -/
theorem ev_callB {X : Cx} {id : String} {x : Str} {p pos : Pos} {e : Expr} {es : List Expr} {r : List V → Hp → VK → Prop} {op : List D → EM D} {g : Env → EM (List D)} (hc : CallR X (.builtin id) r) (hs : CallSpec W r op) (hg : Gl X x) (hm : X.mg x = none) (hv : bootBuiltins x = some (.builtin id))
    (ha : PA X (e :: es) (tEvBs W Wx g)) (hn : x ≠ "__name__") (hdb : (x == ("__debug__" : Str)) = false) (he : starEach (e :: es) X.env = (false, eval e X.env) :: starEach es X.env) (hpl : (backTo pos (starEach es X.env)).any (·.1) = false) :
    PE X (.Call (.Name x p) (e :: es) [] pos) (tEv W Wx (fCB op g)) := PE.imp (pe_callB hc hg hm hv ha hn hdb he hpl) fun σ H Q h => tCB_of hs h
theorem ev_callTy {X : Cx} {ty : String} {x : Str} {p pos : Pos} {e : Expr} {es : List Expr} {r : List V → Hp → VK → Prop} {op : List D → EM D} {g : Env → EM (List D)} (hc : CallR X (.type ty) r) (hs : CallSpec W r op) (hg : Gl X x) (hm : X.mg x = none) (hv : bootBuiltins x = some (.type ty))
    (ha : PA X (e :: es) (tEvBs W Wx g)) (hn : x ≠ "__name__") (hdb : (x == ("__debug__" : Str)) = false) (he : starEach (e :: es) X.env = (false, eval e X.env) :: starEach es X.env) (hpl : (backTo pos (starEach es X.env)).any (·.1) = false) :
    PE X (.Call (.Name x p) (e :: es) [] pos) (tEv W Wx (fCB op g)) := PE.imp (pe_callTy hc hg hm hv ha hn hdb he hpl) fun σ H Q h => tCB_of hs h
theorem el_callB {X : Cx} {id : String} {x : Str} {p pos : Pos} {e : Expr} {es : List Expr} {r : List V → Hp → VK → Prop} {op : List D → EM (List D)} {g : Env → EM (List D)} (hc : CallR X (.builtin id) r) (hs : CallSpecL W r op) (hg : Gl X x) (hm : X.mg x = none) (hv : bootBuiltins x = some (.builtin id))
    (ha : PA X (e :: es) (tEvBs W Wx g)) (hn : x ≠ "__name__") (hdb : (x == ("__debug__" : Str)) = false) (he : starEach (e :: es) X.env = (false, eval e X.env) :: starEach es X.env) (hpl : (backTo pos (starEach es X.env)).any (·.1) = false) :
    PE X (.Call (.Name x p) (e :: es) [] pos) (tEvL W Wx (fCB op g)) := PE.imp (pe_callB hc hg hm hv ha hn hdb he hpl) fun σ H Q h => tCBL_of hs h
theorem el_callTy {X : Cx} {ty : String} {x : Str} {p pos : Pos} {e : Expr} {es : List Expr} {r : List V → Hp → VK → Prop} {op : List D → EM (List D)} {g : Env → EM (List D)} (hc : CallR X (.type ty) r) (hs : CallSpecL W r op) (hg : Gl X x) (hm : X.mg x = none) (hv : bootBuiltins x = some (.type ty))
    (ha : PA X (e :: es) (tEvBs W Wx g)) (hn : x ≠ "__name__") (hdb : (x == ("__debug__" : Str)) = false) (he : starEach (e :: es) X.env = (false, eval e X.env) :: starEach es X.env) (hpl : (backTo pos (starEach es X.env)).any (·.1) = false) :
    PE X (.Call (.Name x p) (e :: es) [] pos) (tEvL W Wx (fCB op g)) := PE.imp (pe_callTy hc hg hm hv ha hn hdb he hpl) fun σ H Q h => tCBL_of hs h

/-! subscripts -/
def ixD : D → D → EM D := fun x y => match x, y with
  | .str s, .int i => match atI s.cps.toList i with
    | some c => pureE (.str ⟨#[c]⟩)
    | none => failE
  | x, .int i => bindE (seqE x) fun xs => optE (atI xs i)
  | _, _ => failE
theorem atI_rep {vs : List V} {ds : List D} {i : Int} {d : D} (h : RepVs W S H vs ds) (e : atI ds i = some d) : ∃ v, atI vs i = some v ∧ RepV W S H v d := by
  unfold atI at e ⊢
  rw [h.length]
  cases q : ixN ds.length i with
  | none => rw [q] at e; cases e
  | some j =>
    rw [q] at e
    exact h.get e
theorem os_ix : OpSpec W (rIx W.K) ixD := by
  intro x y d e S H μ res σ Wx Q hS rx ry hf hk
  unfold ixD at hf
  split at hf
  · rename_i s i
    obtain ⟨rfl, hl⟩ := rx.str
    cases ry.int
    cases q : atI s.cps.toList i with
    | none => rw [q] at hf; cases hf
    | some c =>
      rw [q] at hf
      cases hf
      exact .inr (.inr ⟨s, i, c, rfl, rfl, Nat.le_trans hl big_le, q, hk.val hS (.str _ (by show 1 ≤ big; decide))⟩)
  · rename_i i _
    cases ry.int
    obtain ⟨xs, e1, hf⟩ := seqE_now (ok := okV W Q) hf
    obtain ⟨z, hz, rfl⟩ := optE_some hf
    obtain ⟨a, ws, rfl, h1, h2, h3⟩ := seqD_rep hS rx e1
    obtain ⟨v, hv, rv⟩ := atI_rep h3 hz
    rcases h1 with h1 | h1
    · exact .inl ⟨a, ws, i, v, rfl, rfl, h1, hv, hk.val hS rv⟩
    · exact .inr (.inl ⟨a, ws, i, v, rfl, rfl, h1, hv, hk.val hS rv⟩)
  · cases hf
theorem ev_ix {X : Cx} (hK : X.K = W.K) {a b : Expr} {pos : Pos} {f g : Env → EM D} (ha : PE X a (tEvB W Wx f)) (hb : PE X b (tEvB W Wx g)) (hs : PlainIx b) : PE X (.Subscript a b pos) (tEv W Wx (fOp2 ixD f g)) := by
  have h : IxR X (rIx W.K) := by rw [← hK]; exact ix_seq
  exact PE.imp (pe_ix h ha hb hs) fun σ H Q h => tOp_of os_ix h
/-! slices -/
structure POe (W : Wd) (Wx : WX) (X : Cx) (e : Option Expr) (f : Env → EM (Option Int)) : Prop where
  po : PO X e (fun σ H Q => tG W Wx f (fun o _ H' => Q o H') σ H)
def fNoP : Env → EM (Option Int) := fun _ => pureE none
def fP (f : Env → EM D) : Env → EM (Option Int) := fun env => bindE (f env) fun d => match d with
  | .int i => pureE (some i)
  | _ => failE
theorem PO.imp {X : Cx} {e : Option Expr} {t t' : TO} (h : PO X e t) (hi : ∀ σ H Q, t' σ H Q → t σ H Q) : PO X e t' := ⟨fun pins s σ H Q I hw => h.run pins s σ H Q I (hi _ _ _ hw)⟩
theorem eo_none {X : Cx} : POe W Wx X none fNoP := ⟨PO.imp po_none fun σ H Q ⟨S, μ, env, res, hS, hE, hf, hk⟩ => by
  cases hf
  exact hk.now hS⟩
theorem eo_some {X : Cx} {e : Expr} {f : Env → EM D} (h : PE X e (tEvB W Wx f)) : POe W Wx X (some e) (fP f) := ⟨PO.imp (po_some h) fun σ H Q ⟨S, μ, env, res, hS, hE, hf, hk⟩ => by
  refine tG.bind hS hE hf hk fun d μ1 S1 H1 l1 g1 e1 hf1 hk1 v rv => ?_
  cases d <;> first
    | (cases hf1; done)
    | skip
  cases rv.int
  cases hf1
  have z := hk1.now g1
  exact ⟨_, rfl, z⟩⟩
def cutL {α : Type} (xs : List α) (lo hi : Option Int) : List α := (xs.drop (HT.sIx xs.length 0 lo)).take (HT.sIx xs.length xs.length hi - HT.sIx xs.length 0 lo)
/-- a slice of a text or a tuple -/
def slD (lo hi : Option Int) : D → EM D
  | .str s => pureE (.str (cutS s lo hi))
  | .tup xs => pureE (.tup (cutL xs lo hi))
  | .lst xs => pureE (.lst (cutL xs lo hi))
  | _ => failE
def slL (lo hi : Option Int) : D → EM (List D) := fun d => match d with
  | .scr ns => pureE (cutL (ns.map D.int) lo hi)
  | d => bindE (lstE d) fun xs => pureE (cutL xs lo hi)
def fSl {α : Type} (op : Option Int → Option Int → D → EM α) (f : Env → EM D) (l h : Env → EM (Option Int)) : Env → EM α := fun env => bindE (f env) fun d => bindE (l env) fun lo => bindE (h env) fun hi => op lo hi d
theorem cutV_rep {vs : List V} {ds : List D} (h : RepVs W S H vs ds) (lo hi : Option Int) : RepVs W S H (cutV vs lo hi) (cutL ds lo hi) := by
  unfold cutV cutL
  rw [h.length]
  exact (h.drop _).take _
theorem el_sl {X : Cx} (hK : X.K = W.K) {a : Expr} {lo hi : Option Expr} {p2 pos : Pos} {f : Env → EM D} {l h : Env → EM (Option Int)} (ha : PE X a (tEvB W Wx f)) (hl : POe W Wx X lo l) (hh : POe W Wx X hi h) : PE X (.Subscript a (.Slice lo hi none p2) pos) (tEvL W Wx (fSl slL f l h)) :=
  PE.imp (pe_slice sl_list ha hl.po hh.po) fun σ H Q ⟨S, μ, env, res, hS, hE, hf, hk⟩ => by
    refine tG.bind hS hE hf hk fun d μ1 S1 H1 l1 g1 e1 hf1 hk1 v rv => ?_
    refine tG.bind g1 e1 hf1 hk1 fun lo μ2 S2 H2 l2 g2 e2 hf2 hk2 => ?_
    refine tG.bind g2 e2 hf2 hk2 fun hi μ3 S3 H3 l3 g3 e3 hf3 hk3 => ?_
    have rv := (rv.laterE l2).laterE l3
    unfold slL at hf3
    split at hf3
    · cases hf3
      obtain ⟨a, rfl, h1, h2⟩ := rv.scr
      rw [hK]
      refine ⟨a, _, rfl, h1, fun p hp => okL_new g3 (fun a h => l3.mem a (l2.mem a (l1.mem a h))) hk3 hp (Nat.le_trans (cutV_length _ _ _) (by rw [List.length_map]; exact h2)) (cutV_rep (reps_ints _) lo hi)⟩
    obtain ⟨xs, e, hf3⟩ := lstE_now hf3
    cases hf3
    obtain ⟨b, vs, rfl, h1, h2, r⟩ := lstD_rep g3 rv e
    rw [hK]
    exact ⟨b, vs, rfl, SqL.of h1, fun p hp => okL_new g3 (fun a h => l3.mem a (l2.mem a (l1.mem a h))) hk3 hp (Nat.le_trans (cutV_length _ _ _) h2) (cutV_rep r lo hi)⟩
/-! lists: +, * -/
def OpSpecL (W : Wd) (r : R2) (op : D → D → EM (List D)) : Prop := ∀ (x y : V) (d e : D) (S : Ws) (H : Hp) (μ : Mu) (res : Out (List D) × Mu) (σ : St) (Wx : WX) (Q : VK) (H0 : Hp), Sg W S H μ → (∀ a, H0 a ≠ none → H a ≠ none) → RepB W S H x d → RepB W S H y e → op d e μ = some res → KG W S H σ Wx (okL W Q H0) res → r x y H Q
def fOp2L (op : D → D → EM (List D)) (f g : Env → EM D) : Env → EM (List D) := fun env => bindE (f env) fun d => bindE (g env) fun e => op d e
theorem el_bin {X : Cx} {op : Operator} {r : R2} {a b : Expr} {pos : Pos} {opd : D → D → EM (List D)} {f g : Env → EM D} (ho : OpR X (binaryOp op) r) (hs : OpSpecL W r opd) (ha : PE X a (tEvB W Wx f)) (hb : PE X b (tEvB W Wx g)) :
    PE X (.BinOp a op b pos) (tEvL W Wx (fOp2L opd f g)) := PE.imp (pe_op ho ha hb) fun σ H Q ⟨S, μ, env, res, hS, hE, hf, hk⟩ => by
  refine tG.bind hS hE hf hk fun d μ1 S1 H1 l1 g1 e1 hf1 hk1 x rx => ?_
  refine tG.bind g1 e1 hf1 hk1 fun e μ2 S2 H2 l2 g2 e2 hf2 hk2 y ry => ?_
  exact hs x y d e S2 H2 μ2 res σ Wx Q H g2 (fun a h => l2.mem a (l1.mem a h)) (rx.laterE l2) ry hf2 hk2
def catD (x y : D) : EM (List D) := bindE (lstE x) fun xs => bindE (lstE y) fun ys => guardE (decide (xs.length + ys.length ≤ big)) (pureE (xs ++ ys))
theorem os_cat : OpSpecL W rCat catD := by
  intro x y d e S H μ res σ Wx Q H0 hS hm rx ry hf hk
  obtain ⟨xs, e1, hf⟩ := lstE_now hf
  obtain ⟨ys, e2, hf⟩ := lstE_now hf
  obtain ⟨hl, hf⟩ := guardE_some hf
  cases hf
  have hl := of_decide_eq_true hl
  obtain ⟨a, vs, rfl, h1, h2, r1⟩ := lstD_rep hS rx e1
  obtain ⟨b, ws, rfl, h3, h4, r2⟩ := lstD_rep hS ry e2
  have hlen : (vs ++ ws).length ≤ big := by rw [List.length_append, r1.length, r2.length]; exact hl
  exact ⟨a, b, vs, ws, rfl, rfl, h1, h3, by rw [← List.length_append]; exact Nat.le_trans hlen big_le, fun p hp => okL_new hS hm hk hp hlen (r1.append r2)⟩
def repD (x y : D) : EM (List D) := match y with
  | .int k => bindE (lstE x) fun xs => guardE (decide (-(2 ^ 63) ≤ k ∧ k < 2 ^ 63 ∧ xs.length * k.toNat ≤ big)) (pureE (repL k.toNat xs))
  | _ => failE
theorem os_rep : OpSpecL W rRep repD := by
  intro x y d e S H μ res σ Wx Q H0 hS hm rx ry hf hk
  unfold repD at hf
  split at hf
  · rename_i k
    cases ry.int
    obtain ⟨xs, e1, hf⟩ := lstE_now hf
    obtain ⟨hl, hf⟩ := guardE_some hf
    cases hf
    have hl := of_decide_eq_true hl
    obtain ⟨a, vs, rfl, h1, h2, r1⟩ := lstD_rep hS rx e1
    have hlen : vs.length * k.toNat ≤ big := by rw [r1.length]; exact hl.2.2
    exact ⟨a, k, vs, rfl, rfl, h1, hl.1, hl.2.1, Nat.le_trans hlen big_le, fun p hp => okL_new hS hm hk hp (by rw [len_rep]; exact hlen) (rep_repL r1 _)⟩
  · cases hf
end
end EG
namespace EG
open PySem L2

abbrev Fn := List D → EM D
section
variable {W : Wd} {S S' S1 : Ws} {H H' H1 : Hp} {σ : St} {env : Env} {μ : Mu} {Wx : WX} {α β : Type}
/-- what a caller of a def is promised -/
def KF (W : Wd) (S : Ws) (H : Hp) (Q : VK) (E : XK) : Out D × Mu → Prop
  | (.ok d, μ') => ∀ S' H' v, LtE S H S' H' → Sg W S' H' μ' → RepV W S' H' v d → Q v H'
  | (.exc c fs, μ') => ∀ S' H' dd vs, LtE S H S' H' → Sg W S' H' μ' → H' dd = some (.xd vs) → S'.Ow dd = none → RepFs W S' H' vs fs → E (.ref (W.ca c)) (some dd) H'
def spF (W : Wd) (n : Nat) (F : Fn) : Sp := fun vs H Q E => vs.length = n ∧ ∃ S μ ds res, Sg W S H μ ∧ RepVs W S H vs ds ∧ F ds μ = some res ∧ KF W S H Q E res
/-- the owners as a callee sees them -/
def hand (S : Ws) : Ws := { S with Ow := fun a => match S.Ow a with
  | some (.slot _) => some .out
  | w => w }
/-- an owner that a caller holds, but the lent cells -/
def kL : Own → Prop | .out => True | .slot _ => True | _ => False
/-- .. and as the caller sees them behind the call -/
def back (S Se : Ws) : Ws := { ρ := Se.ρ, Ow := fun a => match S.Ow a with
  | some (.slot i) => some (.slot i)
  | some .out => some .out
  | some .cap => some .cap
  | _ => match Se.Ow a with
    | some .cap => some .cap
    | some (.cell n) => some (.cell n)
    | _ => none }
theorem hand_none {a : Addr} (h : S.Ow a = none) : (hand S).Ow a = none := by simp [hand, h]
theorem hand_cell {a : Addr} {n : Nat} (h : S.Ow a = some (.cell n)) : (hand S).Ow a = some (.cell n) := by simp [hand, h]
theorem hand_out {a : Addr} {w : Own} (h : S.Ow a = some w) (k : kL w) : (hand S).Ow a = some .out := by
  cases w with
  | out => simp [hand, h]
  | slot i => simp [hand, h]
  | cell n => exact k.elim
  | cap => exact k.elim
theorem hand_cap {a : Addr} (h : S.Ow a = some .cap) : (hand S).Ow a = some .cap := by simp [hand, h]
theorem lt_hand {k : Own → Prop} (hk : ∀ w, k w → w = .out) : Lt k S H (hand S) H where
  dat := fun a o e q => ⟨hand_none e, q⟩
  own := fun a w e q => by
    rw [hk w q] at e ⊢
    exact ⟨by simp [hand, e], rfl⟩
  cel := fun n a e q => ⟨e, hand_cell q⟩
  mem := fun _ h => h
theorem Sg.hand (g : Sg W S H μ) : Sg W (hand S) H μ where
  wf := fun a w e => by
    cases q : S.Ow a with
    | none => simp [EG.hand, q] at e
    | some w' => exact g.wf a w' q
  len := g.len
  cells := fun n c e hi => by
    obtain ⟨a, e1, e2, r⟩ := g.cells n c e hi
    exact ⟨a, e1, hand_cell e2, r.later (lt_hand (k := fun _ => False) fun _ h => h.elim) rfl⟩
  ext := g.ext.keep (lt_hand (H := H) (k := fun _ => False) fun _ h => h.elim).dat (lt_hand (H := H) (k := fun _ => False) fun _ h => h.elim).cel (fun a w e h => by
    subst h
    exact ⟨hand_cap e, rfl⟩) fun _ z => z
theorem back_none {Se : Ws} {a : Addr} (h : S.Ow a = none) (h' : Se.Ow a = none) : (back S Se).Ow a = none := by simp [back, h, h']
theorem back_own {Se : Ws} {a : Addr} {w : Own} (h : S.Ow a = some w) (k : ∀ n, w ≠ .cell n) : (back S Se).Ow a = some w := by
  cases w with
  | out => simp [back, h]
  | slot i => simp [back, h]
  | cell n => exact absurd rfl (k n)
  | cap => simp [back, h]
theorem back_cell {Se : Ws} {a : Addr} {n : Nat} (h : Se.Ow a = some (.cell n)) (hs : ∀ w, S.Ow a = some w → ∃ m, w = .cell m) : (back S Se).Ow a = some (.cell n) := by
  cases q : S.Ow a with
  | none => simp [back, q, h]
  | some w =>
    obtain ⟨m, rfl⟩ := hs w q
    simp [back, q, h]
theorem back_lt {Se : Ws} {He : Hp} (g : Sg W S H μ) (l : LtS (hand S) H Se He) : LtE S H (back S Se) He where
  dat := fun a o e q => by
    obtain ⟨h1, h2⟩ := l.dat a o (hand_none e) q
    exact ⟨back_none e h1, h2⟩
  own := fun a w e k => by
    cases w with
    | out => exact ⟨back_own e (fun n z => nomatch z), (l.own a _ (hand_out e trivial) trivial).2⟩
    | slot i => exact ⟨back_own e (fun n z => nomatch z), (l.own a _ (hand_out e trivial) trivial).2⟩
    | cap => exact ⟨back_own e (fun n z => nomatch z), (l.own a _ (hand_cap e) trivial).2⟩
    | cell n => exact k.elim
  cel := fun n a e q => by
    obtain ⟨h1, h2⟩ := l.cel n a e (hand_cell q)
    exact ⟨h1, back_cell h2 fun w e' => by rw [q] at e'; cases e'; exact ⟨_, rfl⟩⟩
  mem := l.mem
/-- what the callee knows holds for the caller too -/
theorem back_mono {Se : Ws} {He : Hp} (g : Sg W S H μ) (l : LtS (hand S) H Se He) : (∀ a o, Se.Ow a = none → He a = some o → (back S Se).Ow a = none ∧ He a = some o) ∧ (∀ (n : Nat) a, Se.ρ[n]? = some a → Se.Ow a = some (.cell n) → (back S Se).ρ[n]? = some a ∧ (back S Se).Ow a = some (.cell n)) := by
  have no : ∀ a w, S.Ow a = some w → kL w → Se.Ow a = some .out := fun a w e k => (l.own a _ (hand_out e k) trivial).1
  have noC : ∀ a, S.Ow a = some .cap → Se.Ow a = some .cap := fun a e => (l.own a _ (hand_cap e) trivial).1
  refine ⟨fun a o e q => ⟨?_, q⟩, fun n a e q => ⟨e, back_cell q fun w e' => ?_⟩⟩
  · cases z : S.Ow a with
    | none => exact back_none z e
    | some w =>
      cases w with
      | out => rw [no a _ z trivial] at e; cases e
      | slot i => rw [no a _ z trivial] at e; cases e
      | cell n => simp [back, z, e]
      | cap => rw [noC a z] at e; cases e
  · cases w with
    | out => rw [no a _ e' trivial] at q; cases q
    | slot i => rw [no a _ e' trivial] at q; cases q
    | cell m => exact ⟨m, rfl⟩
    | cap => rw [noC a e'] at q; cases q
theorem back_sg {Se : Ws} {He : Hp} {μ' : Mu} (g : Sg W S H μ) (l : LtS (hand S) H Se He) (ge : Sg W Se He μ') : Sg W (back S Se) He μ' where
  wf := fun a w e => by
    cases z : S.Ow a with
    | some w' =>
      obtain ⟨u, q⟩ := g.wf a w' z
      have := l.mem a (by rw [q]; exact fun z => nomatch z)
      cases y : He a with
      | none => exact absurd y this
      | some u => exact ⟨u, rfl⟩
    | none =>
      cases y : Se.Ow a with
      | none => rw [back_none z y] at e; cases e
      | some w' => exact ge.wf a w' y
  len := ge.len
  cells := fun n c e hi => by
    obtain ⟨a, e1, e2, r⟩ := ge.cells n c e hi
    obtain ⟨m1, m2⟩ := back_mono g l
    exact ⟨a, e1, (m2 n a e1 e2).2, r.mono m1 m2 rfl⟩
  ext := ge.ext.keep (back_mono g l).1 (back_mono g l).2 (fun a w e h => by
    subst h
    refine ⟨?_, rfl⟩
    cases z : S.Ow a with
    | none => simp [back, z, e]
    | some w =>
      cases w with
      | out => have := (l.own a _ (hand_out z trivial) trivial).1; rw [e] at this; cases this
      | slot i => have := (l.own a _ (hand_out z trivial) trivial).1; rw [e] at this; cases this
      | cell n => simp [back, z, e]
      | cap => simp [back, z]) fun _ z => z

/-! calls -/
def fCall (n : Nat) (F : Fn) (dds : List D) (g : Env → EM (List D)) : Env → EM D := fun env => bindE (g env) fun ds => guardE (decide (ds.length + dds.length = n)) (F (ds ++ dds))
theorem spF_of {n : Nat} {F : Fn} {vs : List V} {ds : List D} {res : Out D × Mu} {Q : VK} (hS : Sg W S H μ) (hl : ds.length = n) (r : RepVs W S H vs ds) (hf : F ds μ = some res) (hk : KG W S H σ Wx (okV W Q) res) : spF W n F vs H Q (fun cls dd H' => Wx cls dd σ H') := by
  refine ⟨r.length.trans hl, S, μ, ds, res, hS, r, hf, ?_⟩
  obtain ⟨o, μ'⟩ := res
  cases o with
  | ok d => exact fun S' H' v l g rv => hk S' H' l g v rv
  | exc c fs => exact fun S' H' dd vs l g h1 h2 h3 => hk S' H' dd vs l g h1 h2 h3
theorem passAt' {X : Cx} (tk : L2N.Takes X Wx) (σ : St) : PassesAt (L2N.CX X.prog X.w) X σ (fun cls dd H' => Wx cls dd σ H') := L2N.passAt tk σ
theorem ev_call {X : Cx} {k n : Nat} {f : Addr} {fd : FuncData} {ps : List Str} {x : Str} {p pos : Pos} {e : Expr} {es : List Expr} {F : Fn} {g : Env → EM (List D)} {dds : List D} {dvs : List V} {dus : List Value}
    (G : FnOk X.prog X.w X.K X.mg X.base (L2N.CX X.prog X.w) k f fd ps (spF W n F)) (tk : L2N.Takes X Wx) (hr : Room k X.A) (hg : Gl X x) (hm : X.mg x = some (.ref f)) (hk : PySem.W.keepIn X.K (.ref f) = true) (hb : Binds X.K fd ps dus) (hd : Vals dvs dus)
    (hdd : ∀ S H, RepVs W S H dvs dds) (ha : PA X (e :: es) (tEvs W Wx g)) (hdb : (x == ("__debug__" : Str)) = false) (he : starEach (e :: es) X.env = (false, eval e X.env) :: starEach es X.env) (hpl : (backTo pos (starEach es X.env)).any (·.1) = false) :
    PE X (.Call (.Name x p) (e :: es) [] pos) (tEv W Wx (fCall n F dds g)) :=
  PE.imp (pe_callSD (E := fun σ cls dd H' => Wx cls dd σ H') G hr hg hm hk hb hd (fun σ => passAt' tk σ) ha hdb he hpl) fun σ H Q ⟨S, μ, env, res, hS, hE, hf, hk⟩ => by
    refine tG.bind hS hE hf hk fun ds μ1 S1 H1 l1 g1 e1 hf1 hk1 vs rvs => ?_
    obtain ⟨hl, hf1⟩ := guardE_some hf1
    exact spF_of g1 (by rw [List.length_append]; exact of_decide_eq_true hl) (rvs.append (hdd S1 H1)) hf1 hk1
end
end EG
namespace EG
open PySem PySem.Spec PyProof.Rows L2
/-! a, b = a list -/
section
variable {prog : Program} {w : World} {A : Around} {E : Value → Shared → Prop} {s : Shared}
theorem draw_list {it t : Addr} {items : Array Value} (hne : t ≠ it) : ∀ (n i : Nat) (s : Shared) (Q : List Value → Shared → Prop), s.heap.IsListIter it t i → s.heap.IsList t items → i + n ≤ items.size →
    (∀ h' : Heap, h'.IsListIter it t (i + n) → Heap.SameBut it s.heap h' → Q ((items.toList.drop i).take n) { s with heap := h' }) → wpAny (model prog w) A (draw (.ref it) n) Q E s
  | 0, i, s, Q, hit, _, _, hQ => by
    show wpAny _ _ (pure []) Q E s
    exact wpAny_pure (by simpa using hQ s.heap hit (Heap.SameBut.refl ..))
  | n + 1, i, s, Q, hit, ht, hle, hQ => by
    have hlt : i < items.size := by omega
    show wpAny _ _ (pyNext (.ref it) >>= _) Q E s
    refine wpAny_bind (wpAny_pyNext_list_item hit ht (x := items[i]) (by simp [hlt]) fun h₁ hit₁ hs₁ => ?_)
    refine wpAny_bind (wpAny_holding (draw_list hne n (i + 1) _ _ hit₁ (ht.extBut hs₁.extBut hne) (by omega) fun h₂ hit₂ hs₂ => wpAny_pure ?_))
    have hd : items.toList.drop i = items[i] :: items.toList.drop (i + 1) := by simp [List.drop_eq_getElem_cons, hlt]
    have := hQ h₂ (by rw [show i + (n + 1) = i + 1 + n by omega]; exact hit₂) (hs₁.trans hs₂)
    rw [hd, List.take_succ_cons] at this
    exact this
theorem unpackItems_list {t : Addr} {items : Array Value} {Q : List Value → Shared → Prop} (hh : A.handled = none) (ht : s.heap.IsList t items)
    (hQ : ∀ h', Heap.ExtBut s.heap.objs.size s.heap h' → Q items.toList { s with heap := h' }) : wpAny (model prog w) A (unpackItems (.ref t) items.size none) Q E s := by
  have hlt : t ≠ s.heap.objs.size := by obtain ⟨o, ho, _⟩ := ht; exact Nat.ne_of_lt (Heap.lt_size ho)
  unfold unpackItems
  refine wpAny_bind ?_
  · unfold notIterableAtAll
    refine wpAny_bind (wpAny_specialOf ht.typeIs slot_list_iter.lookup ?_)
    refine wpAny_pure ?_
    simp only [Bool.false_eq_true, if_false]
    refine wpAny_bind (wpAny_holding (wpAny_pyIter_list ht ?_))
    refine wpAny_bind (wpAny_holding (draw_list hlt items.size 0 _ _ ⟨_, Heap.get?_push_size _ rfl, rfl, rfl⟩ (ht.push _) (by omega) fun h₁ hit₁ hs₁ => ?_))
    have hall : List.take items.size (List.drop 0 items.toList) = items.toList := by
      rw [List.drop_zero]; exact List.take_of_length_le (by simp)
    rw [hall]
    rw [if_neg (by simp)]
    have ht₁ : h₁.IsList t items := (ht.push _).extBut hs₁.extBut hlt
    refine wpAny_bind (wpAny_holding (wpAny_pyNext_list_end hh hit₁ ht₁ (by simp) fun h₂ he₂ => ?_))
    simp only [Option.isSome_none, Bool.false_eq_true, if_false]
    refine wpAny_pure (hQ h₂ fun b o hb e => he₂ b o hb (hs₁.extBut b o hb (Heap.get?_push_of_some _ e)))
theorem unpack_list {t : Addr} {items : Array Value} {targets : List (Bool × (Value → Sem Unit))} {Q : Unit → Shared → Prop} (hh : A.handled = none) (ht : s.heap.IsList t items)
    (hn : targets.length = items.size) (hstar : targets.findIdx? (·.1) = none)
    (h : ∀ h', Heap.ExtBut s.heap.objs.size s.heap h' → wpAny (model prog w) A (assignInOrder (targets.map (·.2)) items.toList) Q E { s with heap := h' }) :
    wpAny (model prog w) A (unpack (.ref t) targets) Q E s := by
  unfold unpack
  rw [hn, hstar]
  exact wpAny_bind (wpAny_holding (unpackItems_list hh ht h))
theorem assign_Tuple_list {env : PySem.Env} {elts : List Expr} {x1} {pos : Pos} {t : Addr} {items : Array Value} {Q : Unit → Shared → Prop} (hh : A.handled = none) (ht : s.heap.IsList t items)
    (hn : (assignEach elts env).length = items.size) (hstar : (assignEach elts env).findIdx? (·.1) = none)
    (h : ∀ h', Heap.ExtBut s.heap.objs.size s.heap h' → wpAny (model prog w) A (assignInOrder ((assignEach elts env).map (·.2)) items.toList) Q E { s with heap := h' }) :
    wpAny (model prog w) A (assign (.Tuple elts x1 pos) env (.ref t)) Q E s := by
  rw [assign_Tuple]
  exact wpAny_bind (wpAny_standAt (unpack_list hh ht hn hstar h))
end
section
variable {X : Cx} {pos : Pos}
def gTupE (K : PySem.W.Frag) (n : Nat) (t : TGs) : TG := fun v σ H Q => ∃ a xs, v = .ref a ∧ (SqT K H a xs ∨ SqL K H a xs) ∧ xs.length = n ∧ t xs σ H Q
theorem pg_tupE {es : List Expr} {k : Nat} {t : TGs} {n : Nat} (hc : X.calm = true) (h : PGs X es t)
    (hn : (assignEach es X.env).length = n := by rfl) (hst : (assignEach es X.env).findIdx? (·.1) = none := by rfl) : PG X (.Tuple es k pos) (gTupE X.K n t) := by
  refine ⟨fun pins s σ H v u Q I r hw => ?_⟩
  obtain ⟨a, xs, e1, hq, hl, hw⟩ := hw
  subst e1
  cases r
  rcases hq with hq | hq
  · obtain ⟨its, rv, ht, hz⟩ := I.tuple hq
    refine assign_Tuple_tuple (I.ok.hd hc) ht (by simp [hn, ← hl, rv.length]) hst fun h' hx => ?_
    have I1 : Inv X pins σ H { s with heap := h' } := I.kept (t' := s.toks) fun b o e => hx b o (Nat.ne_of_lt (Heap.lt_size e)) e
    exact h.run pins _ σ H xs _ Q I1 (by simpa using rv) hw
  · obtain ⟨its, rv, ht, hz⟩ := I.list hq
    refine assign_Tuple_list (I.ok.hd hc) ht.isList (by simp [hn, ← hl, rv.length]) hst fun h' hx => ?_
    have I1 : Inv X pins σ H { s with heap := h' } := I.kept (t' := s.toks) fun b o e => hx b o (Nat.ne_of_lt (Heap.lt_size e)) e
    exact h.run pins _ σ H xs _ Q I1 (by simpa using rv) hw
end
end EG
namespace EG
open PySem L2

inductive SO where
  | nx (env : Env) | rt (d : D) | br (env : Env) | ct (env : Env) | exc (c : Nat) (fs : List (Str × D)) (env : Env)
abbrev SM := Env → Mu → Option (SO × Mu)
def KS (W : Wd) (S : Ws) (H : Hp) (Wx : WX) (Dn : Ends) : SO × Mu → Prop
  | (.nx env', μ') => ∀ S' H' σ', LtS S H S' H' → Sg W S' H' μ' → EnvOk W S' H' σ' env' → Dn.nx σ' H'
  | (.rt d, μ') => ∀ S' H' v, LtS S H S' H' → Sg W S' H' μ' → RepV W S' H' v d → Dn.rt v H'
  | (.br env', μ') => ∀ S' H' σ', LtS S H S' H' → Sg W S' H' μ' → EnvOk W S' H' σ' env' → Dn.bk σ' H'
  | (.ct env', μ') => ∀ S' H' σ', LtS S H S' H' → Sg W S' H' μ' → EnvOk W S' H' σ' env' → Dn.ct σ' H'
  | (.exc c fs env', μ') => ∀ S' H' σ' dd vs, LtS S H S' H' → Sg W S' H' μ' → EnvOk W S' H' σ' env' → H' dd = some (.xd vs) → S'.Ow dd = none → RepFs W S' H' vs fs → Wx (.ref (W.ca c)) (some dd) σ' H'
def tSt (W : Wd) (Wx : WX) (F : SM) : TS := fun Dn σ H => ∃ S μ env r, Sg W S H μ ∧ EnvOk W S H σ env ∧ F env μ = some r ∧ KS W S H Wx Dn r
section
variable {W : Wd} {S S' S1 : Ws} {H H' H1 : Hp} {σ : St} {env : Env} {μ : Mu} {Wx : WX} {α β : Type} {X : Cx} {Dn : Ends}
theorem KS.later {r : SO × Mu} (h : KS W S H Wx Dn r) (l : LtS S H S1 H1) : KS W S1 H1 Wx Dn r := by
  obtain ⟨o, μ'⟩ := r
  cases o with
  | nx e => exact fun S' H' σ' l' => h S' H' σ' (l.trans l')
  | rt d => exact fun S' H' v l' => h S' H' v (l.trans l')
  | br e => exact fun S' H' σ' l' => h S' H' σ' (l.trans l')
  | ct e => exact fun S' H' σ' l' => h S' H' σ' (l.trans l')
  | exc c fs e => exact fun S' H' σ' dd vs l' => h S' H' σ' dd vs (l.trans l')
theorem PS.imp {st : Stmt} {t t' : TS} (h : PS X st t) (hi : ∀ D σ H, t' D σ H → t D σ H) : PS X st t' := ⟨fun pins s σ H D I hw => h.run pins s σ H D I (hi _ _ _ hw)⟩
theorem PSs.imp {st : List Stmt} {t t' : TS} (h : PSs X st t) (hi : ∀ D σ H, t' D σ H → t D σ H) : PSs X st t' := ⟨fun pins s σ H D I hw => h.run pins s σ H D I (hi _ _ _ hw)⟩
/-! blocks -/
def fSkip : SM := fun env μ => some (.nx env, μ)
def fSeq (F G : SM) : SM := fun env μ => match F env μ with
  | some (.nx env', μ') => G env' μ'
  | r => r
theorem seq_of {F G : SM} (h : tSt W Wx (fSeq F G) Dn σ H) : tSeq (tSt W Wx F) (tSt W Wx G) Dn σ H := by
  obtain ⟨S, μ, env, r, hS, hE, hf, hk⟩ := h
  unfold fSeq at hf
  cases e : F env μ with
  | none => rw [e] at hf; cases hf
  | some q =>
    obtain ⟨o, μ1⟩ := q
    rw [e] at hf
    refine ⟨S, μ, env, _, hS, hE, e, ?_⟩
    cases o with
    | nx env' => exact fun S' H' σ' l g e' => ⟨S', μ1, env', r, g, e', hf, hk.later l⟩
    | rt d => cases hf; exact hk
    | br e => cases hf; exact hk
    | ct e => cases hf; exact hk
    | exc c fs e => cases hf; exact hk
theorem skip_of {Wx : WX} (h : tSt W Wx fSkip Dn σ H) : Dn.nx σ H := by
  obtain ⟨S, μ, env, r, hS, hE, hf, hk⟩ := h
  cases hf
  exact hk S H σ .refl hS hE
theorem es_nil : PSs X [] (tSt W Wx fSkip) := PSs.imp pss_nil fun D σ H h => skip_of h
theorem es_cons {st : Stmt} {rest : List Stmt} {F G : SM} (h1 : PS X st (tSt W Wx F)) (h2 : PSs X rest (tSt W Wx G)) : PSs X (st :: rest) (tSt W Wx (fSeq F G)) := PSs.imp (pss_cons h1 h2) fun D σ H h => seq_of h
theorem es_pass {pos : Pos} : PS X (.Pass pos) (tSt W Wx fSkip) := PS.imp ps_pass fun D σ H h => skip_of h
theorem es_doc {x : Str} {j : Nat} {pos pos' : Pos} : PS X (.Expr (.Constant (.str x) j pos) pos') (tSt W Wx fSkip) := PS.imp ps_doc fun D σ H h => skip_of h
def fBreak : SM := fun env μ => some (.br env, μ)
def fCont : SM := fun env μ => some (.ct env, μ)
theorem es_break {pos : Pos} : PS X (.Break pos) (tSt W Wx fBreak) := PS.imp ps_break fun D σ H ⟨S, μ, env, r, hS, hE, hf, hk⟩ => by
  cases hf; exact hk S H σ .refl hS hE
theorem es_cont {pos : Pos} : PS X (.Continue pos) (tSt W Wx fCont) := PS.imp ps_continue fun D σ H ⟨S, μ, env, r, hS, hE, hf, hk⟩ => by
  cases hf; exact hk S H σ .refl hS hE
/-- code that is never reached -/
def fNever : SM := fun _ _ => none
theorem es_never {st : Stmt} : PS X st (tSt W Wx fNever) := PS.imp ps_never fun D σ H ⟨S, μ, env, r, hS, hE, hf, hk⟩ => by cases hf

/-! an expression, then k -/
def liftE {α : Type} (f : Env → EM α) (k : α → SM) : SM := fun env μ => match f env μ with
  | some (.ok a, μ') => k a env μ'
  | some (.exc c fs, μ') => some (.exc c fs env, μ')
  | none => none
theorem tG.lift {f : Env → EM α} {k : α → SM} {ok : α → Ws → Hp → Prop} (h : tSt W Wx (liftE f k) Dn σ H)
    (hR : ∀ S μ env a μ1 S1 H1 r, Sg W S H μ → LtE S H S1 H1 → Sg W S1 H1 μ1 → EnvOk W S1 H1 σ env → k a env μ1 = some r → KS W S H Wx Dn r → ok a S1 H1) : tG W Wx f ok σ H := by
  obtain ⟨S, μ, env, r, hS, hE, hf, hk⟩ := h
  unfold liftE at hf
  cases e : f env μ with
  | none => rw [e] at hf; cases hf
  | some q =>
    obtain ⟨o, μ1⟩ := q
    rw [e] at hf
    refine ⟨S, μ, env, _, hS, hE, e, ?_⟩
    cases o with
    | ok a => exact fun S' H' l g => hR S μ env a μ1 S' H' r hS l g (hE.laterE l) hf hk
    | exc c fs =>
      cases hf
      exact fun S' H' dd vs l g h1 h2 h3 => hk S' H' σ dd vs l.toS g (hE.laterE l) h1 h2 h3
theorem EnvOk.set {i : Nat} {v : V} {sl : Slot} (h : EnvOk W S H σ env) (hr : SlotRep W S H i (some (some v)) sl) : EnvOk W S H (σ.set i (some v)) (env.set i sl) where
  len := by rw [List.length_set, List.length_set]; exact h.len
  at_ := fun j sl' e => by
    by_cases hj : j = i
    · subst hj
      by_cases hl : j < env.length
      · rw [List.getElem?_set_self hl] at e
        cases e
        rw [List.getElem?_set_self (by rw [← h.len]; exact hl)]
        exact hr
      · rw [List.getElem?_eq_none (by rw [List.length_set]; omega)] at e
        cases e
    · rw [List.getElem?_set_ne (Ne.symm hj)] at e ⊢
      exact h.at_ j sl' e
/-! x = e -/
def fSet (i : Nat) (f : Env → EM D) : SM := liftE f fun d env μ => some (.nx (env.set i (.v d)), μ)
theorem es_set {i : Nat} {x : Str} {e : Expr} {pos pos' : Pos} {f : Env → EM D} (h : PS X (.Assign [.Name x pos'] e pos) (tAsg (tEv W Wx f) (gName i))) : PS X (.Assign [.Name x pos'] e pos) (tSt W Wx (fSet i f)) :=
  PS.imp h fun D σ H h => tG.lift h fun S μ env d μ1 S1 H1 r hS l g hE hf hk v rv => by
    cases hf
    exact hk S1 H1 (σ.set i (some v)) l.toS g (hE.set ⟨v, rfl, rv⟩)
/-- x = a new list, x's own -/
def fSetOwn (i : Nat) (f : Env → EM (List D)) : SM := liftE f fun xs env μ => some (.nx (env.set i (.own (.lst xs))), μ)
/-- ghost: x's own list is data from here on -/
def fFreeze (i : Nat) : SM := fun env μ => match env[i]? with
  | some (.own c) => some (.nx (env.set i (.v c.toD)), μ)
  | some (.v d) => some (.nx (env.set i (.v d)), μ)
  | _ => none
theorem set_self {α : Type} : ∀ (l : List α) (i : Nat) (a : α), l[i]? = some a → l.set i a = l
  | [], _, _, h => by simp at h
  | x :: r, 0, a, h => by simp at h; subst h; rfl
  | x :: r, i + 1, a, h => by
    rw [List.set_cons_succ, set_self r i a (by simpa using h)]
/-- the slot i changes alone, its list's owner with it -/
theorem EnvOk.turn {i : Nat} {p : Addr} {w : Option Own} {sl sl0 : Slot} (h : EnvOk W S H σ env) (h0 : env[i]? = some sl0) (hp : S.Ow p = some (.slot i)) (hv : σ[i]? = some (some (.ref p))) (hr : SlotRep W (S.set p w) H i (some (some (.ref p))) sl) : EnvOk W (S.set p w) H σ (env.set i sl) where
  len := by rw [List.length_set]; exact h.len
  at_ := fun j sl' e => by
    by_cases hj : j = i
    · subst hj
      have hl : j < env.length := (List.getElem?_eq_some_iff.mp h0).1
      rw [List.getElem?_set_self hl] at e
      cases e
      rw [hv]
      exact hr
    · rw [List.getElem?_set_ne (Ne.symm hj)] at e
      have z := h.at_ j sl' e
      have lt : Lt (fun w => w ≠ .slot i) S H (S.set p w) H := lt_set hp (fun z => z rfl) fun n z => nomatch z
      cases sl' with
      | no => trivial
      | v d => obtain ⟨v, e, r⟩ := z; exact ⟨v, e, r.later lt⟩
      | own c =>
        obtain ⟨a, e, o, r⟩ := z
        obtain ⟨o', h'⟩ := lt.own a _ o (fun z => hj (by cases z; rfl))
        exact ⟨a, e, o', r.later lt h'⟩
theorem es_freeze {i : Nat} {sts : List Stmt} {G : SM} (h : PSs X sts (tSt W Wx G)) : PSs X sts (tSt W Wx (fSeq (fFreeze i) G)) :=
  PSs.imp h fun D σ H ⟨S, μ, env, r, hS, hE, hf, hk⟩ => by
    unfold fSeq fFreeze at hf
    cases e : env[i]? with
    | none => rw [e] at hf; cases hf
    | some sl =>
      rw [e] at hf
      have z := hE.at_ i _ e
      cases sl with
      | no => cases hf
      | v d =>
        have : env.set i (.v d) = env := set_self env i _ e
        simp only [this] at hf
        exact ⟨S, μ, env, r, hS, hE, hf, hk⟩
      | own c =>
        obtain ⟨a, e1, o, rv⟩ := z
        have lt : Lt (fun w => w ≠ .slot i) S H (S.set a none) H := lt_set o (fun z => z rfl) fun n z => nomatch z
        have lS : LtS S H (S.set a none) H := ⟨lt.dat, fun b w q k => lt.own b w q (by rintro rfl; exact k), lt.cel, lt.mem⟩
        exact ⟨S.set a none, μ, _, r, hS.set o (fun n z => nomatch z), hE.turn (sl := .v c.toD) e o e1 ⟨_, rfl, (rv.later lt rfl).toV Ws.set_same⟩, hf, hk.later lS⟩
/-! return, expression, if -/
def fRet (f : Env → EM D) : SM := liftE f fun d _ μ => some (.rt d, μ)
theorem es_ret {e : Expr} {pos : Pos} {f : Env → EM D} (he : PE X e (tEv W Wx f)) : PS X (.Return (some e) pos) (tSt W Wx (fRet f)) :=
  PS.imp (ps_ret he) fun D σ H h => tG.lift h fun S μ env d μ1 S1 H1 r hS l g hE hf hk v rv => by
    cases hf
    exact hk S1 H1 v l.toS g rv
def fRetN : SM := fun _ μ => some (.rt .non, μ)
theorem es_retN {pos : Pos} : PS X (.Return none pos) (tSt W Wx fRetN) := PS.imp ps_retN fun D σ H ⟨S, μ, env, r, hS, hE, hf, hk⟩ => by
  cases hf; exact hk S H .non .refl hS .non
def fDrop (f : Env → EM D) : SM := liftE f fun _ env μ => some (.nx env, μ)
def fIfS (c : Env → EM Bool) (F G : SM) : SM := liftE c fun b env μ => match b with
  | true => F env μ
  | false => G env μ
theorem es_if {c : Expr} {a b : List Stmt} {pos : Pos} {fc : Env → EM Bool} {F G : SM} (hc : PT X c (tEvT W Wx fc)) (ha : PSs X a (tSt W Wx F)) (hb : PSs X b (tSt W Wx G)) : PS X (.If c a b pos) (tSt W Wx (fIfS fc F G)) :=
  PS.imp (ps_if hc ha hb) fun D σ H h => tG.lift h fun S μ env b μ1 S1 H1 r hS l g hE hf hk => by
    refine okT_mk ?_
    cases b with
    | true => exact iT rfl ⟨S1, μ1, env, r, g, hE, hf, hk.later l.toS⟩
    | false => exact iF Bool.false_ne_true ⟨S1, μ1, env, r, g, hE, hf, hk.later l.toS⟩

/-! targets -/
mutual
inductive Pat where
  | nm (i : Nat) | tp (ps : Pats)
inductive Pats where
  | nil | cons (p : Pat) (r : Pats)
end
def Pats.len : Pats → Nat
  | .nil => 0
  | .cons _ r => r.len + 1
mutual
def bindP : Pat → D → Env → Option Env
  | .nm i, d, env => some (env.set i (.v d))
  | .tp ps, d, env => match d with
    | .tup ds => bindPs ps ds env
    | .lst ds => bindPs ps ds env
    | _ => none
def bindPs : Pats → List D → Env → Option Env
  | .nil, ds, env => match ds with
    | [] => some env
    | _ :: _ => none
  | .cons p r, ds, env => match ds with
    | [] => none
    | d :: ds => match bindP p d env with
      | some env' => bindPs r ds env'
      | none => none
end
mutual
def Pat.slots : Pat → List Nat
  | .nm i => [i]
  | .tp ps => ps.slots
def Pats.slots : Pats → List Nat
  | .nil => []
  | .cons p r => p.slots ++ r.slots
end
/-- the slots but ps are as they were -/
def Agree (ps : List Nat) (σ σ' : St) : Prop := σ'.length = σ.length ∧ ∀ j, j ∉ ps → σ'[j]? = σ[j]?
theorem Agree.refl {ps : List Nat} {σ : St} : Agree ps σ σ := ⟨rfl, fun _ _ => rfl⟩
theorem Agree.set {i : Nat} {σ : St} {v : Option V} : Agree [i] σ (σ.set i v) := ⟨by rw [List.length_set], fun j h => by rw [List.getElem?_set_ne (by simp at h; omega)]⟩
theorem Agree.trans {ps qs : List Nat} {σ σ1 σ2 : St} (a : Agree ps σ σ1) (b : Agree qs σ1 σ2) : Agree (ps ++ qs) σ σ2 := ⟨b.1.trans a.1, fun j h => by
  rw [List.mem_append, not_or] at h
  exact (b.2 j h.2).trans (a.2 j h.1)⟩
def tTg (W : Wd) (p : Pat) : TG := fun v σ H Q => ∃ S μ env env' d, Sg W S H μ ∧ EnvOk W S H σ env ∧ RepV W S H v d ∧ bindP p d env = some env' ∧ ∀ σ', EnvOk W S H σ' env' → Agree p.slots σ σ' → Q σ' H
def tTgs (W : Wd) (p : Pats) : TGs := fun vs σ H Q => ∃ S μ env env' ds, Sg W S H μ ∧ EnvOk W S H σ env ∧ RepVs W S H vs ds ∧ bindPs p ds env = some env' ∧ ∀ σ', EnvOk W S H σ' env' → Agree p.slots σ σ' → Q σ' H
theorem PG.imp {e : Expr} {t t' : TG} (h : PG X e t) (hi : ∀ v σ H Q, t' v σ H Q → t v σ H Q) : PG X e t' := ⟨fun pins s σ H v u Q I r hw => h.run pins s σ H v u Q I r (hi _ _ _ _ hw)⟩
theorem PGs.imp {e : List Expr} {t t' : TGs} (h : PGs X e t) (hi : ∀ v σ H Q, t' v σ H Q → t v σ H Q) : PGs X e t' := ⟨fun pins s σ H v u Q I r hw => h.run pins s σ H v u Q I r (hi _ _ _ _ hw)⟩
theorem eg_name {e : Expr} {i : Nat} (h : PG X e (gName i)) : PG X e (tTg W (.nm i)) := PG.imp h fun v σ H Q ⟨S, μ, env, env', d, hS, hE, rv, hb, hq⟩ => by
  cases hb
  exact hq _ (hE.set ⟨v, rfl, rv⟩) .set
theorem eg_nil : PGs X [] (tTgs W .nil) := PGs.imp pgs_nil fun v σ H Q ⟨S, μ, env, env', ds, hS, hE, rv, hb, hq⟩ => by
  unfold bindPs at hb
  cases ds with
  | nil => cases hb; cases rv; exact ⟨rfl, hq σ hE .refl⟩
  | cons d ds => cases hb
theorem eg_cons {e : Expr} {es : List Expr} {p : Pat} {r : Pats} (h1 : PG X e (tTg W p)) (h2 : PGs X es (tTgs W r)) (hs : (assignEach (e :: es) X.env).map (·.2) = assign e X.env :: (assignEach es X.env).map (·.2)) : PGs X (e :: es) (tTgs W (.cons p r)) :=
  PGs.imp (pgs_cons h1 h2 hs) fun vs σ H Q ⟨S, μ, env, env', ds, hS, hE, rv, hb, hq⟩ => by
    unfold bindPs at hb
    cases ds with
    | nil => cases hb
    | cons d ds =>
      cases rv with
      | cons r1 r2 =>
        simp only at hb
        cases z : bindP p d env with
        | none => rw [z] at hb; cases hb
        | some env1 =>
          rw [z] at hb
          exact ⟨_, _, rfl, S, μ, env, env1, d, hS, hE, r1, z, fun σ' e' ag => ⟨S, μ, env1, env', ds, hS, e', r2, hb, fun σ2 e2 ag2 => hq σ2 e2 (ag.trans ag2)⟩⟩
theorem bindPs_len : ∀ (p : Pats) (ds : List D) (env env' : Env), bindPs p ds env = some env' → ds.length = p.len
  | .nil, ds, env, env', h => by
    unfold bindPs at h
    cases ds with
    | nil => rfl
    | cons d ds => cases h
  | .cons p r, ds, env, env', h => by
    unfold bindPs at h
    cases ds with
    | nil => cases h
    | cons d ds =>
      simp only at h
      cases z : bindP p d env with
      | none => rw [z] at h; cases h
      | some env1 =>
        rw [z] at h
        have := bindPs_len r ds env1 env' h
        simp [Pats.len, this]
theorem eg_tup (hK : X.K = W.K) {es : List Expr} {k n : Nat} {pos : Pos} {ps : Pats} (hc : X.calm = true) (h : PGs X es (tTgs W ps)) (hn : (assignEach es X.env).length = n) (hp : ps.len = n) (hst : (assignEach es X.env).findIdx? (·.1) = none) : PG X (.Tuple es k pos) (tTg W (.tp ps)) :=
  PG.imp (pg_tupE hc h hn hst) fun v σ H Q ⟨S, μ, env, env', d, hS, hE, rv, hb, hq⟩ => by
    unfold bindP at hb
    split at hb
    · rename_i ds
      obtain ⟨a, vs, rfl, h1, h2, r⟩ := RepB.tup (.inl rv)
      refine ⟨a, vs, rfl, .inl (by rw [hK]; exact h1), ?_, S, μ, env, env', ds, hS, hE, r, hb, hq⟩
      rw [r.length, bindPs_len _ _ _ _ hb, hp]
    · rename_i ds
      cases rv with
      | lst h1 h2 h3 h4 =>
        refine ⟨_, _, rfl, .inr (SqL.of h1), ?_, S, μ, env, env', ds, hS, hE, h4, hb, hq⟩
        rw [h4.length, bindPs_len _ _ _ _ hb, hp]
    · cases hb
/-- pattern = e -/
def fAsg (p : Pat) (f : Env → EM D) : SM := liftE f fun d env μ => match bindP p d env with
  | some env' => some (.nx env', μ)
  | none => none
end
end EG
namespace EG
open PySem PySem.Spec PyProof.Rows L2
/-! enumerate and zip over lists and tuples in any mix -/
/-- a list (false) or a tuple (true) -/
def SqG (K : PySem.W.Frag) (κ : Bool) (H : Hp) (a : Addr) (xs : List V) : Prop := match κ with
  | false => SqL K H a xs
  | true => SqT K H a xs
def IterG (κ : Bool) (h : Heap) (it a : Addr) (i : Nat) : Prop := match κ with
  | false => h.IsListIter it a i
  | true => h.IsTupleIter it a i
def AtG (κ : Bool) (h : Heap) (a : Addr) (its : Array Value) : Prop := match κ with
  | false => h.IsList a its
  | true => h.IsTuple a its
def objG (κ : Bool) (a : Addr) : Obj := match κ with
  | false => { cls := .type "list_iterator", data := .fields #[.ref a, .int 0 0] }
  | true => { cls := .type "tuple_iterator", data := .fields #[.ref a, .int 0 0] }
theorem begins_G (κ : Bool) (a : Addr) (its : Array Value) : Begins (.ref a) (objG κ a) fun h => AtG κ h a its := by
  cases κ with
  | false => exact begins_list a its
  | true => exact begins_tuple a its
theorem draws_G {prog : Program} {w : World} {A : Around} (hh : A.handled = none) (κ : Bool) (it a : Addr) (hne : a ≠ it) (its : Array Value) :
    Draws prog w A it [it, a] its.size (fun i v => its[i]? = some v) (fun i h => IterG κ h it a i ∧ AtG κ h a its) := by
  cases κ with
  | false => exact .list hh it a hne its
  | true => exact .tuple hh it a hne its
theorem inv_G {X : Cx} {κ : Bool} {pins : List (Addr × Obj)} {σ : L2.St} {H : Hp} {s : Shared} {a : Addr} {xs : List V} (I : Inv X pins σ H s) (h : SqG X.K κ H a xs) : ∃ its : List Value, Vals xs its ∧ AtG κ s.heap a its.toArray ∧ a < s.heap.objs.size := by
  cases κ with
  | false => obtain ⟨its, r, p, _⟩ := I.list h; exact ⟨its, r, p.isList, p.lt⟩
  | true => obtain ⟨its, r, p, _⟩ := I.tuple h; obtain ⟨o, ho, _⟩ := id p; exact ⟨its, r, p, Heap.lt_size ho⟩
theorem inj_G {X : Cx} {κ : Bool} {pins : List (Addr × Obj)} {σ : L2.St} {H : Hp} {s : Shared} {a : Addr} {xs ys : List V} (I : Inv X pins σ H s) (h : SqG X.K κ H a xs) (h' : SqG X.K κ H a ys) : xs = ys := by
  cases κ with
  | false => exact I.list_inj h h'
  | true => exact I.tuple_inj h h'
theorem iterG_obj {κ : Bool} {h : Heap} {it a : Addr} {i : Nat} (st : IterG κ h it a i) : ∃ o, h.get? it = some o ∧ ∀ v, o.data ≠ .cell v := by
  cases κ with
  | false => obtain ⟨o, e, _, d⟩ := st; exact ⟨o, e, fun v q => by rw [d] at q; cases q⟩
  | true => obtain ⟨o, e, _, d⟩ := st; exact ⟨o, e, fun v q => by rw [d] at q; cases q⟩
theorem iterG_keep {κ : Bool} {h h' : Heap} {it a : Addr} {i : Nat} (st : IterG κ h it a i) (k : ∀ o, h.get? it = some o → h'.get? it = some o) : IterG κ h' it a i := by
  cases κ with
  | false => obtain ⟨o, e, c, d⟩ := st; exact ⟨o, k o e, c, d⟩
  | true => obtain ⟨o, e, c, d⟩ := st; exact ⟨o, k o e, c, d⟩
theorem iterG_new {κ : Bool} {h : Heap} {it a : Addr} (e : h.get? it = some (objG κ a)) : IterG κ h it a 0 := by
  cases κ with
  | false => exact ⟨_, e, rfl, rfl⟩
  | true => exact ⟨_, e, rfl, rfl⟩
def IteG (K : PySem.W.Frag) (κ : Bool) (a : Addr) : It :=
  ⟨fun i H => ∃ (xs : List V) (x : V), SqG K κ H a xs ∧ xs[i]? = some x, fun i H v H' => ∃ T x, v = .ref T ∧ H T = none ∧ H' = upd H T (.tup [.int (i : Nat), x]) ∧ ∀ xs, SqG K κ H a xs → xs[i]? = some x, fun i H => ∃ xs : List V, SqG K κ H a xs ∧ xs.length = i⟩
theorem wT_in1 {A : Around} (h : A.handled = none) : A.in1.handled = none := h
theorem turn_enumG {P : Program} {w : World} {K : PySem.W.Frag} {κ : Bool} {elts : List Expr} {kk : Nat} {tpos : Pos} (a e it : Addr) (hei : e ≠ it) (hai : a ≠ it) (hea : e ≠ a) :
    Turn P w K (.Tuple elts kk tpos) (IteG K κ a) [e, it] e (fun i h => (∃ old, IsEnum h e it ((i : Nat) : Int) old) ∧ IterG κ h it a i) where
  mem := by simp
  obj := fun i h st b hb => by
    obtain ⟨⟨old, he⟩, hit⟩ := st
    have e' : b = e ∨ b = it := by simpa using hb
    rcases e' with z | z
    · rw [z]; exact ⟨_, he, fun v q => nomatch q⟩
    · rw [z]; exact iterG_obj hit
  keep := fun i h h' st k => let ⟨⟨old, he⟩, hi⟩ := st; ⟨⟨old, k e (by simp) _ he⟩, iterG_keep hi fun o q => k it (by simp) o q⟩
  item := by
    intro X hP hw hK hc i pins s σ H E I hf st hg
    subst hP hw hK
    obtain ⟨he, hit⟩ := st
    obtain ⟨xs, x, hq, hx⟩ := hg
    obtain ⟨its, rv, p, hlt⟩ := inv_G I hq
    obtain ⟨u, hu, ru⟩ := rv.get hx
    have hlen : i < its.toArray.size := by
      have := (List.getElem?_eq_some_iff.mp hu).1
      simpa using this
    have Wk := WalksT.enumFrom (prog := X.prog) (w := X.w) (A := X.A) 0 (draws_G (prog := X.prog) (w := X.w) (wT_in1 (I.ok.hd hc)) κ it a hai its.toArray) e hei (by simp [hei, hea]) (by simp)
    have st0 : (∃ old, IsEnum s.heap e it (0 + (i : Int)) old) ∧ (IterG κ s.heap it a i ∧ AtG κ s.heap a its.toArray) := ⟨by rw [Int.zero_add]; exact he, hit, p⟩
    refine Wk.item i s _ _ hlen st0 fun T vals h' tk hPt hT hIsT hMid hk => ⟨_, rfl, Wk.go elts kk tpos i T _ _ _ hMid fun h'' st'' hk2 => ?_⟩
    obtain ⟨t, y, hy, rfl⟩ := hPt
    have hyu : y = u := by
      have : its.toArray[i]? = some u := by simpa using hu
      rw [this] at hy; exact (Option.some.inj hy).symm
    subst hyu
    have hTn := Wk.apart i T _ hMid
    obtain ⟨oT, hoT, c1, n1, d1⟩ := hIsT
    have hT2 : h''.get? T = some oT := hk2 T oT hTn hoT
    have e0 : (0 : Int) + (i : Int) = (i : Int) := Int.zero_add _
    have new : ObjOk X.prog X.w (upd H T (.tup [.int (i : Nat), x])) h'' T (.tup [.int (i : Nat), x]) :=
      ⟨by show 2 ≤ sizeLine; decide, [.int (0 + (i : Int)) t, y], .cons ⟨_, by rw [e0]⟩ (.cons ru .nil), ⟨oT, hT2, c1, n1, d1⟩⟩
    have I1 : Inv X pins σ (upd H T (.tup [.int (i : Nat), x])) { s with heap := h'', toks := tk } :=
      I.turnedNew (ch := [e, it]) (fun b ob hb q => hk2 b ob hb (hk b ob hb q)) hf hT new
    refine ⟨.ref T, _, I1, rfl, ⟨T, x, rfl, I.hok.fresh hT, rfl, fun ys hy => by rw [inj_G I hy hq]; exact hx⟩, ⟨?_, st''.2.1⟩, fun b hb => ?_⟩
    · obtain ⟨⟨old, q⟩, _⟩ := st''
      exact ⟨old, by rw [Int.zero_add] at q; exact q⟩
    · have hb' : b < s.heap.objs.size := by
        have e' : b = e ∨ b = it := by simpa using hb
        rcases e' with z | z
        · rw [z]; obtain ⟨_, q⟩ := he; exact Heap.lt_size q
        · rw [z]; obtain ⟨o, q, _⟩ := iterG_obj hit; exact Heap.lt_size q
      rw [upd_ne (Nat.ne_of_lt (Nat.lt_of_lt_of_le hb' hT))]
      exact (hf b hb).1
  done := by
    intro X hP hw hK hc i pins s σ H E I hf st hg
    subst hP hw hK
    obtain ⟨he, hit⟩ := st
    obtain ⟨xs, hq, hx⟩ := hg
    obtain ⟨its, rv, p, hlt⟩ := inv_G I hq
    have hl := rv.length
    have hi : i = its.toArray.size := by simp; omega
    have Wk := WalksT.enumFrom (prog := X.prog) (w := X.w) (A := X.A) 0 (draws_G (prog := X.prog) (w := X.w) (wT_in1 (I.ok.hd hc)) κ it a hai its.toArray) e hei (by simp [hei, hea]) (by simp)
    subst hi
    have st0 : (∃ old, IsEnum s.heap e it (0 + (its.toArray.size : Int)) old) ∧ (IterG κ s.heap it a its.toArray.size ∧ AtG κ s.heap a its.toArray) := ⟨by rw [Int.zero_add]; exact he, hit, p⟩
    exact Wk.done s _ _ st0 fun h' tk hk => ⟨rfl, I.turnedL (t' := tk) (ch := [e, it]) hk hf⟩
  self := fun A i s Q E st h => let ⟨⟨_, he⟩, _⟩ := st; wpAny_pyIter_enum he h
theorem meets_enumerate_new1 {v : Value} {o : Obj} {H : Heap → Prop} (B : Begins v o H) :
    Meets (Builtin.«enumerate.__new__» ⟨[.type "enumerate", v], []⟩) (fun _ R s => H s.heap ∧
      R (.ok (.ret (.ref (s.heap.push o).objs.size))) { s with heap := (s.heap.push o).push { cls := .type "enumerate", data := .fields #[.none, .bool false, .ref s.heap.objs.size, rawInt 0, .none, .none] } }) :=
  .of_wp fun prog w A R s h => by
    obtain ⟨hp, g, d, tk, os⟩ := s; obtain ⟨h1, h⟩ := h
    have hsub := sub_enumerate
    have q1 : ∀ {A' : Around} {E : Value → Shared → Prop} {Q : Value → Shared → Prop}, Q (.ref hp.objs.size) ⟨hp.push o, g, d, tk, os⟩ → wpAny (model prog w) A' (pyIter v) Q E ⟨hp, g, d, tk, os⟩ :=
      fun q => B.iter prog w _ _ ⟨hp, g, d, tk, os⟩ _ h1 q
    wp_walk using q1
    refine wpAny_stack_any fun st => wpAny_pure ?_
    split
    · rename_i c _ _ _ _ _
      cases (c == Value.type "enumerate")
      · wp_walk using q1
        exact ⟨_, rfl, h⟩
      · wp_walk using q1
        exact ⟨_, rfl, h⟩
    · wp_walk using q1
      exact ⟨_, rfl, h⟩
theorem call_enumB {prog : Program} {w : World} {A : Around} {E : Value → Shared → Prop} {s : Shared} {v : Value} {o : Obj} {H : Heap → Prop} {Q : Value → Shared → Prop} (B : Begins v o H) (h1 : H s.heap)
    (h : ∀ h', IsEnum h' (s.heap.objs.size + 1) s.heap.objs.size 0 .none → h'.get? s.heap.objs.size = some o → h'.objs.size = s.heap.objs.size + 2 →
      (∀ b o, s.heap.get? b = some o → h'.get? b = some o) → Q (.ref (s.heap.objs.size + 1)) { s with heap := h' }) :
    wpAny (model prog w) A (call (.type "enumerate") [v]) Q E s := by
  refine callType_new PySem.F.called_enumerate (by decide) (PySem.F.typeCall_enumerate_1 _) (PySem.F.newCall_enumerate_1 _) (fun obj => PySem.F.args_object_init_2 obj _) PySem.F.entry_enumerate_new
    (meets_enumerate_new1 B) ⟨h1, ?_⟩
  have hz : (s.heap.push o).objs.size = s.heap.objs.size + 1 := Heap.size_push ..
  show _ ∧ _
  rw [hz]
  have he : IsEnum ((s.heap.push o).push { cls := .type "enumerate", data := .fields #[.none, .bool false, .ref s.heap.objs.size, rawInt 0, .none, .none] }) (s.heap.objs.size + 1) s.heap.objs.size 0 .none := by
    have := Heap.get?_push_size (s.heap.push o) (o := { cls := .type "enumerate", data := .fields #[.none, .bool false, .ref s.heap.objs.size, rawInt 0, .none, .none] }) rfl
    rw [hz] at this; exact this
  refine ⟨⟨_, he, rfl⟩, h _ he (Heap.get?_push_of_some _ (Heap.get?_push_size _ B.free)) (by rw [Heap.size_push, hz]) fun b o x => Heap.get?_push_of_some _ (Heap.get?_push_of_some _ x)⟩
def iEnumG (K : PySem.W.Frag) (ta : TA) : TI := fun σ H R => ta σ H fun vs H1 => ∃ κ a xs, vs = [.ref a] ∧ SqG K κ H1 a xs ∧ R (IteG K κ a) H1
theorem pi_enumG {X : Cx} {e : Expr} {ta : TA} {p pos tpos : Pos} {elts : List Expr} {kk : Nat} (hg : Gl X "enumerate") (hm : X.mg "enumerate" = none) (ha : PA X [e] ta) (hs : starEach [e] X.env = [(false, eval e X.env)]) :
    PI X (.Tuple elts kk tpos) (.Call (.Name "enumerate" p) [e] [] pos) (iEnumG X.K ta) := by
  refine ⟨fun pins s σ H R I h => ?_⟩
  refine Call_ (ld_blt I hg hm boot_enumerate (PyProof.Rows.callWith_type1 (thn (ha.run pos pins s σ H _ I h) fun us s1 ⟨vs, H1, I1, r1, q1⟩ => ?_) hs rfl))
  obtain ⟨κ, a, xs, ex, hq, q⟩ := q1
  subst ex
  cases r1 with
  | cons r rr =>
    cases rr
    cases r
    obtain ⟨its, rv, p', hlt⟩ := inv_G I1 hq
    have fin : ∀ h', IsEnum h' (s1.heap.objs.size + 1) s1.heap.objs.size 0 .none → IterG κ h' s1.heap.objs.size a 0 → (∀ b o, s1.heap.get? b = some o → h'.get? b = some o) → wpAny (model X.prog X.w) X.A (pyIter (.ref (s1.heap.objs.size + 1))) (PIE X pins σ (.Tuple elts kk tpos) R) X.xe { s1 with heap := h' } := fun h' he hit hk => by
      refine wpAny_pyIter_enum he ?_
      have I2 : Inv X pins σ H1 { s1 with heap := h' } := I1.kept (t' := s1.toks) hk
      refine ⟨s1.heap.objs.size + 1, [s1.heap.objs.size + 1, s1.heap.objs.size], _, _, H1, rfl, I2, turn_enumG (κ := κ) a (s1.heap.objs.size + 1) s1.heap.objs.size (Nat.succ_ne_self _) (Nat.ne_of_lt hlt) (Nat.ne_of_gt (Nat.lt_succ_of_lt hlt)), ⟨⟨.none, he⟩, hit⟩, fun b hb => ?_, q⟩
      have e' : b = s1.heap.objs.size + 1 ∨ b = s1.heap.objs.size := by simpa using hb
      have hle : s1.heap.objs.size ≤ b := by
        rcases e' with z | z
        · rw [z]; exact Nat.le_add_right _ _
        · rw [z]; exact Nat.le_refl _
      exact I1.fpOk hle (I1.hok.fresh hle)
    cases κ with
    | false => exact call_enumerate_list p' fun h' he hit hsz hk => fin h' he hit hk
    | true => exact call_enumB (begins_G true a its.toArray) p' fun h' he hit hsz hk => fin h' he (iterG_new (κ := true) hit) hk
/-! zip -/
def ItzG (K : PySem.W.Frag) (κ κ' : Bool) (a b : Addr) : It :=
  ⟨fun i H => ∃ (xs ys : List V) (x y : V), SqG K κ H a xs ∧ SqG K κ' H b ys ∧ xs[i]? = some x ∧ ys[i]? = some y,
    fun i H v H' => ∃ T x y, v = .ref T ∧ H T = none ∧ H' = upd H T (.tup [x, y]) ∧ (∀ xs, SqG K κ H a xs → xs[i]? = some x) ∧ ∀ ys, SqG K κ' H b ys → ys[i]? = some y,
    fun i H => ∃ xs ys : List V, SqG K κ H a xs ∧ SqG K κ' H b ys ∧ i = min xs.length ys.length⟩
theorem turn_zipG {P : Program} {w : World} {K : PySem.W.Frag} {κ κ' : Bool} {elts : List Expr} {kk : Nat} {tpos : Pos} {a b z TI TO i1 i2 : Addr} (D : ZipSep2 z TI TO i1 i2 [i1, a] [i2, b]) (ha : a ≠ i1) (hb : b ≠ i2) :
    Turn P w K (.Tuple elts kk tpos) (ItzG K κ κ' a b) [z, TI, TO, i1, i2] z (fun i h => IsZip h z TI TO .none ∧ IsTupOf2 h TI (.ref i1) (.ref i2) ∧ (∃ x y, IsTupOf2 h TO x y) ∧ IterG κ h i1 a i ∧ IterG κ' h i2 b i) where
  mem := by simp
  obj := fun i h st c hc => by
    obtain ⟨hz, hTI, ⟨x, y, hTO⟩, h1, h2⟩ := st
    have e' : c = z ∨ c = TI ∨ c = TO ∨ c = i1 ∨ c = i2 := by simpa using hc
    rcases e' with q | q | q | q | q
    · rw [q]; exact ⟨_, hz, fun v q => nomatch q⟩
    · rw [q]; exact ⟨_, hTI, fun v q => nomatch q⟩
    · rw [q]; exact ⟨_, hTO, fun v q => nomatch q⟩
    · rw [q]; exact iterG_obj h1
    · rw [q]; exact iterG_obj h2
  keep := fun i h h' st k => by
    obtain ⟨hz, hTI, ⟨x, y, hTO⟩, h1, h2⟩ := st
    exact ⟨k z (by simp) _ hz, k TI (by simp) _ hTI, ⟨x, y, k TO (by simp) _ hTO⟩, iterG_keep h1 fun o q => k i1 (by simp) o q, iterG_keep h2 fun o q => k i2 (by simp) o q⟩
  item := by
    intro X hP hw hK hc i pins s σ H E I hf st hg
    subst hP hw hK
    obtain ⟨hz, hTI, hTO, h1, h2⟩ := st
    obtain ⟨xs, ys, x, y, hqx, hqy, hx, hy⟩ := hg
    obtain ⟨its, rv, p, hlt⟩ := inv_G I hqx
    obtain ⟨its2, rv2, p2, hlt2⟩ := inv_G I hqy
    obtain ⟨u, hu, ru⟩ := rv.get hx
    obtain ⟨u2, hu2, ru2⟩ := rv2.get hy
    have l1 : i < its.toArray.size := by have := (List.getElem?_eq_some_iff.mp hu).1; simpa using this
    have l2 : i < its2.toArray.size := by have := (List.getElem?_eq_some_iff.mp hu2).1; simpa using this
    have hh := wT_in1 (I.ok.hd hc)
    have Wk := WalksT.zipD2 (prog := X.prog) (w := X.w) (A := X.A) D (draws_G hh κ i1 a ha its.toArray) (draws_G hh κ' i2 b hb its2.toArray)
    refine Wk.item i s _ _ (by omega) ⟨hz, hTI, hTO, ⟨h1, p⟩, h2, p2⟩ fun T vals h' tk hPt hT hIsT hMid hk => ⟨_, rfl, Wk.go elts kk tpos i T _ _ _ hMid fun h'' st'' hk2 => ?_⟩
    obtain ⟨v1, v2, hv1, hv2, rfl⟩ := hPt
    have e1 : v1 = u := by
      have : its.toArray[i]? = some u := by simpa using hu
      rw [this] at hv1; exact (Option.some.inj hv1).symm
    have e2 : v2 = u2 := by
      have : its2.toArray[i]? = some u2 := by simpa using hu2
      rw [this] at hv2; exact (Option.some.inj hv2).symm
    subst e1 e2
    have hTn := Wk.apart i T _ hMid
    obtain ⟨oT, hoT, c1, n1, d1⟩ := hIsT
    have hT2 : h''.get? T = some oT := hk2 T oT hTn hoT
    have new : ObjOk X.prog X.w (upd H T (.tup [x, y])) h'' T (.tup [x, y]) :=
      ⟨by show 2 ≤ sizeLine; decide, [v1, v2], .cons ru (.cons ru2 .nil), ⟨oT, hT2, c1, n1, d1⟩⟩
    have I1 : Inv X pins σ (upd H T (.tup [x, y])) { s with heap := h'', toks := tk } :=
      I.turnedNew (ch := [z, TO, i1, i2]) (fun b ob hb q => hk2 b ob hb (hk b ob hb q)) (fun b hb => hf b (by
        have hb' : b = z ∨ b = TO ∨ b = i1 ∨ b = i2 := by simpa using hb
        rcases hb' with q | q | q | q <;> simp [q])) hT new
    refine ⟨.ref T, _, I1, rfl, ⟨T, x, y, rfl, I.hok.fresh hT, rfl, fun l hl => by rw [inj_G I hl hqx]; exact hx, fun l hl => by rw [inj_G I hl hqy]; exact hy⟩, ⟨st''.1, st''.2.1, st''.2.2.1, st''.2.2.2.1.1, st''.2.2.2.2.1⟩, fun c hcm => ?_⟩
    have hlt : c < s.heap.objs.size := by
      have e' : c = z ∨ c = TI ∨ c = TO ∨ c = i1 ∨ c = i2 := by simpa using hcm
      obtain ⟨w1, w2, hTO⟩ := hTO
      rcases e' with q | q | q | q | q
      · rw [q]; exact Heap.lt_size hz
      · rw [q]; exact Heap.lt_size hTI
      · rw [q]; exact Heap.lt_size hTO
      · rw [q]; obtain ⟨o, e1, _⟩ := iterG_obj h1; exact Heap.lt_size e1
      · rw [q]; obtain ⟨o, e1, _⟩ := iterG_obj h2; exact Heap.lt_size e1
    rw [upd_ne (Nat.ne_of_lt (Nat.lt_of_lt_of_le hlt hT))]
    exact (hf c hcm).1
  done := by
    intro X hP hw hK hc i pins s σ H E I hf st hg
    subst hP hw hK
    obtain ⟨hz, hTI, hTO, h1, h2⟩ := st
    obtain ⟨xs, ys, hqx, hqy, hend⟩ := hg
    obtain ⟨its, rv, p, _⟩ := inv_G I hqx
    obtain ⟨its2, rv2, p2, _⟩ := inv_G I hqy
    have l1 := rv.length
    have l2 := rv2.length
    have hi : i = min its.toArray.size its2.toArray.size := by simp; omega
    have hh := wT_in1 (I.ok.hd hc)
    have Wk := WalksT.zipD2 (prog := X.prog) (w := X.w) (A := X.A) D (draws_G hh κ i1 a ha its.toArray) (draws_G hh κ' i2 b hb its2.toArray)
    subst hi
    exact Wk.done s _ _ ⟨hz, hTI, hTO, ⟨h1, p⟩, h2, p2⟩ fun h' tk hk => ⟨rfl, I.turnedL (t' := tk) (ch := [z, TO, i1, i2]) hk (fun b hb => hf b (by
        have hb' : b = z ∨ b = TO ∨ b = i1 ∨ b = i2 := by simpa using hb
        rcases hb' with q | q | q | q <;> simp [q]))⟩
  self := fun A i s Q E st h => wpAny_pyIter_zip st.1 h
def iZipG (K : PySem.W.Frag) (ta : TA) : TI := fun σ H R => ta σ H fun vs H1 => ∃ κ κ' a b xs ys, vs = [.ref a, .ref b] ∧ SqG K κ H1 a xs ∧ SqG K κ' H1 b ys ∧ R (ItzG K κ κ' a b) H1
theorem pi_zipG {X : Cx} {e e2 : Expr} {ta : TA} {p pos tpos : Pos} {elts : List Expr} {kk : Nat} (hg : Gl X "zip") (hm : X.mg "zip" = none) (ha : PA X [e, e2] ta)
    (hs : starEach [e, e2] X.env = (false, eval e X.env) :: starEach [e2] X.env) (hpl : (backTo pos (starEach [e2] X.env)).any (·.1) = false) :
    PI X (.Tuple elts kk tpos) (.Call (.Name "zip" p) [e, e2] [] pos) (iZipG X.K ta) := by
  refine ⟨fun pins s σ H R I h => ?_⟩
  refine Call_ (ld_blt I hg hm PyProof.Rows.boot_zip (PyProof.Rows.callWith_type1 (thn (ha.run pos pins s σ H _ I h) fun us s1 ⟨vs, H1, I1, r1, q1⟩ => ?_) hs hpl))
  obtain ⟨κ, κ', a, b, xs, ys, ex, hqx, hqy, q⟩ := q1
  subst ex
  cases r1 with
  | cons r rr =>
    cases rr with
    | cons r' rr =>
      cases rr
      cases r
      cases r'
      obtain ⟨its, rv, p1, la⟩ := inv_G I1 hqx
      obtain ⟨its2, rv2, p2, lb⟩ := inv_G I1 hqy
      refine zip_begins2 (begins_G κ a its.toArray) (begins_G κ' b its2.toArray) p1 p2 fun h' hz hTI hTO h1 h2 hsz hk => wpAny_pyIter_zip hz ?_
      have I2 : Inv X pins σ H1 { s1 with heap := h' } := I1.kept (t' := s1.toks) hk
      refine ⟨s1.heap.objs.size + 4, [s1.heap.objs.size + 4, s1.heap.objs.size + 2, s1.heap.objs.size + 3, s1.heap.objs.size, s1.heap.objs.size + 1], _, _, H1, rfl, I2, turn_zipG (κ := κ) (κ' := κ') (zip_sep2 (fp1 := [a]) (fp2 := [b]) (fun c hc => by rw [List.mem_singleton.mp hc]; exact la) (fun c hc => by rw [List.mem_singleton.mp hc]; exact lb)) (Nat.ne_of_lt la) (Nat.ne_of_lt (Nat.lt_succ_of_lt lb)), ⟨hz, hTI, ⟨_, _, hTO⟩, iterG_new h1, iterG_new h2⟩, fun c hcm => ?_, q⟩
      have e' : c = s1.heap.objs.size + 4 ∨ c = s1.heap.objs.size + 2 ∨ c = s1.heap.objs.size + 3 ∨ c = s1.heap.objs.size ∨ c = s1.heap.objs.size + 1 := by simpa using hcm
      have hle : s1.heap.objs.size ≤ c := by
        rcases e' with z | z | z | z | z
        · rw [z]; exact Nat.le_add_right _ _
        · rw [z]; exact Nat.le_add_right _ _
        · rw [z]; exact Nat.le_add_right _ _
        · rw [z]; exact Nat.le_refl _
        · rw [z]; exact Nat.le_add_right _ _
      exact I1.fpOk hle (I1.hok.fresh hle)
end EG
namespace EG
open PySem L2

/-- an iterator that yields the items ds, whatever happens to the locals' own (k) meanwhile -/
def JOk (W : Wd) (k : Own → Prop) (S : Ws) (H : Hp) (J : It) (ds : List D) : Prop := ∀ S' H', Lt k S H S' H' → (∀ a w, S'.Ow a = some w → ∃ u, H' a = some u) →
  (∀ (i : Nat) d, ds[i]? = some d → J.go i H' ∧ ∀ x H'', J.yld i H' x H'' → LtE S' H' S' H'' ∧ (∀ μ, Sg W S' H' μ → Sg W S' H'' μ) ∧ RepV W S' H'' x d) ∧ J.stop ds.length H'
/-- .. without the bound's being asked: the sources tell it -/
def tSrc' (W : Wd) (Wx : WX) (k : Own → Prop) (f : Env → EM (List D)) : TI := fun σ H R => tG W Wx f (fun ds S' H' => ds.length ≤ big → ∀ J, JOk W k S' H' J ds → R J H') σ H
section
variable {W : Wd} {S S' S1 : Ws} {H H' H1 : Hp} {σ : St} {env : Env} {μ : Mu} {Wx : WX} {α β : Type} {X : Cx} {Dn : Ends} {k : Own → Prop} {tg : Expr}
theorem PI.imp {e : Expr} {t t' : TI} (h : PI X tg e t) (hi : ∀ σ H Q, t' σ H Q → t σ H Q) : PI X tg e t' := ⟨fun pins s σ H Q I hw => h.run pins s σ H Q I (hi _ _ _ hw)⟩
theorem PI.or {e : Expr} {t t' : TI} (h : PI X tg e t) (h' : PI X tg e t') : PI X tg e (fun σ H Q => t σ H Q ∨ t' σ H Q) := ⟨fun pins s σ H Q I hw => hw.elim (h.run pins s σ H Q I) (h'.run pins s σ H Q I)⟩
def signs (s : Str) : List D := s.cps.toList.map fun c => D.str ⟨#[c]⟩
theorem jok_text {s : Str} : JOk W k S H (Its s) (signs s) := fun S' H' l hw => by
  refine ⟨fun i d e => ?_, by show s.cps.size ≤ (signs s).length; simp [signs]⟩
  unfold signs at e
  rw [List.getElem?_map] at e
  cases hc : s.cps.toList[i]? with
  | none => rw [hc] at e; cases e
  | some c =>
    rw [hc] at e
    cases e
    rw [Array.getElem?_toList] at hc
    refine ⟨(Array.getElem?_eq_some_iff.mp hc).1, fun x H'' ⟨e1, c', e2, e3⟩ => ?_⟩
    subst e1
    rw [hc] at e2; cases e2
    subst e3
    exact ⟨.refl, fun _ g => g, .str _ (by show 1 ≤ big; decide)⟩
/-- a list, a tuple, a text that is data -/
def itemsD : D → Option (List D)
  | .lst xs => some xs
  | .tup xs => some xs
  | .str s => some (signs s)
  | _ => none
def fItems (f : Env → EM D) : Env → EM (List D) := fun env => bindE (f env) fun d => optE (itemsD d)
theorem jok_list {a : Addr} {vs : List V} {ds : List D} (h1 : H a = some (.lst vs)) (ho : S.Ow a = none ∨ ∃ w, S.Ow a = some w ∧ k w) (r : RepVs W S H vs ds) : JOk W k S H (Itl W.K a) ds := by
  intro S' H' l hw
  have h2 : H' a = some (.lst vs) := by
    rcases ho with ho | ⟨w, ho, hk⟩
    · exact (l.dat a _ ho h1).2
    · rw [(l.own a w ho hk).2]; exact h1
  have r2 := r.later l
  refine ⟨fun i d e => ?_, vs, SqL.of h2, by rw [r2.length]; exact Nat.le_refl _⟩
  obtain ⟨v, hv, rv⟩ := r2.get e
  refine ⟨⟨vs, v, SqL.of h2, hv⟩, fun x H'' ⟨e1, e2⟩ => ?_⟩
  subst e1
  have := e2 vs (SqL.of h2)
  rw [hv] at this
  cases this
  exact ⟨.refl, fun _ g => g, rv⟩
theorem SqT.later {a : Addr} {vs : List V} (h : (H a = some (.tup vs) ∧ S.Ow a = none) ∨ TupK W.K a vs) (l : Lt k S H S' H') : SqT W.K H' a vs := by
  rcases h with ⟨h, o⟩ | h
  · exact SqT.of (l.dat a _ o h).2
  · exact h.seq
theorem jok_tup {a : Addr} {vs : List V} {ds : List D} (h : (H a = some (.tup vs) ∧ S.Ow a = none) ∨ TupK W.K a vs) (r : RepVs W S H vs ds) : JOk W k S H (Itt W.K a) ds := by
  intro S' H' l hw
  have h2 : SqT W.K H' a vs := SqT.later h l
  have r2 := r.later l
  refine ⟨fun i d e => ?_, vs, h2, by rw [r2.length]; exact Nat.le_refl _⟩
  obtain ⟨v, hv, rv⟩ := r2.get e
  refine ⟨⟨vs, v, h2, hv⟩, fun x H'' ⟨e1, e2⟩ => ?_⟩
  subst e1
  have := e2 vs h2
  rw [hv] at this
  cases this
  exact ⟨.refl, fun _ g => g, rv⟩
theorem RepV.tupH {v : V} {ds : List D} (h : RepV W S H v (.tup ds)) : ∃ a vs, v = .ref a ∧ ((H a = some (.tup vs) ∧ S.Ow a = none) ∨ TupK W.K a vs) ∧ vs.length ≤ big ∧ RepVs W S H vs ds := by
  cases h with
  | tup h1 h2 h3 h4 => exact ⟨_, _, rfl, .inl ⟨h1, h2⟩, h3, h4⟩
  | tupK h1 h2 h3 => exact ⟨_, _, rfl, .inr h1, h2, h3⟩
theorem src_seq (hK : X.K = W.K) {l : Expr} {f : Env → EM D} (hl : PE X l (tEv W Wx f)) : PI X tg l (tSrc' W Wx k (fItems f)) :=
  PI.imp (PI.or (pi_list hl) (PI.or (pi_tup hl) (pi_str hl))) fun σ H R ⟨S, μ, env, res, hS, hE, hf, hk⟩ => by
    unfold fItems bindE at hf
    cases e : f env μ with
    | none => rw [e] at hf; cases hf
    | some q =>
      obtain ⟨o, μ1⟩ := q
      rw [e] at hf
      cases o with
      | exc c fs => cases hf; exact .inl ⟨S, μ, env, _, hS, hE, e, hk⟩
      | ok d =>
        obtain ⟨ds, hd, rfl⟩ := optE_some hf
        cases d with
        | str s =>
          cases hd
          refine .inr (.inr ⟨S, μ, env, _, hS, hE, e, fun S' H' l g v rv => ?_⟩)
          obtain ⟨rfl, hl⟩ := RepB.str (.inl rv)
          exact ⟨s, rfl, hk S' H' l g (by unfold signs; rw [List.length_map]; exact hl) _ jok_text⟩
        | lst xs =>
          cases hd
          refine .inl ⟨S, μ, env, _, hS, hE, e, fun S' H' l g v rv => ?_⟩
          cases rv with
          | lst h1 h2 h3 h4 =>
            rw [hK]
            exact ⟨_, rfl, ⟨_, SqL.of h1⟩, hk S' H' l g (by rw [← h4.length]; exact h3) _ (jok_list h1 (.inl h2) h4)⟩
        | tup xs =>
          cases hd
          refine .inr (.inl ⟨S, μ, env, _, hS, hE, e, fun S' H' l g v rv => ?_⟩)
          obtain ⟨a, vs, rfl, h1, h2, r⟩ := rv.tupH
          rw [hK]
          exact ⟨_, rfl, ⟨vs, SqT.later (W := W) h1 (Lt.refl (k := k))⟩, hk S' H' l g (by rw [← r.length]; exact h2) _ (jok_tup h1 r)⟩
        | _ => cases hd
/-- a list that a local owns, walked by a comprehension -/
theorem src_own (hK : X.K = W.K) {l : Expr} {f : Env → EM D} (hl : PE X l (tEvB W Wx f)) : PI X tg l (tSrc' W Wx kE (fItems f)) :=
  PI.imp (PI.or (pi_list hl) (PI.or (pi_tup hl) (pi_str hl))) fun σ H R ⟨S, μ, env, res, hS, hE, hf, hk⟩ => by
    unfold fItems bindE at hf
    cases e : f env μ with
    | none => rw [e] at hf; cases hf
    | some q =>
      obtain ⟨o, μ1⟩ := q
      rw [e] at hf
      cases o with
      | exc c fs => cases hf; exact .inl ⟨S, μ, env, _, hS, hE, e, hk⟩
      | ok d =>
        obtain ⟨ds, hd, rfl⟩ := optE_some hf
        cases d with
        | lst xs =>
          cases hd
          refine .inl ⟨S, μ, env, _, hS, hE, e, fun S' H' l g v rv => ?_⟩
          rw [hK]
          rcases rv with rv | ⟨a, w, c, e1, e2, e3, e4, r⟩
          · cases rv with
            | lst h1 h2 h3 h4 => exact ⟨_, rfl, ⟨_, SqL.of h1⟩, hk S' H' l g (by rw [← h4.length]; exact h3) _ (jok_list h1 (.inl h2) h4)⟩
          · cases c <;> cases e2
            obtain ⟨vs, q1, q2, r⟩ := r
            exact ⟨_, e1, ⟨_, SqL.of q1⟩, hk S' H' l g (by rw [← r.length]; exact q2) _ (jok_list q1 (.inr ⟨w, e3, e4⟩) r)⟩
        | str s =>
          cases hd
          refine .inr (.inr ⟨S, μ, env, _, hS, hE, e, fun S' H' l g v rv => ?_⟩)
          obtain ⟨rfl, hl⟩ := rv.str
          exact ⟨s, rfl, hk S' H' l g (by unfold signs; rw [List.length_map]; exact hl) _ jok_text⟩
        | tup xs =>
          cases hd
          refine .inr (.inl ⟨S, μ, env, _, hS, hE, e, fun S' H' l g v rv => ?_⟩)
          have rv : RepV W S' H' v (.tup ds) := rv.tupV
          obtain ⟨a, vs, rfl, h1, h2, r⟩ := rv.tupH
          rw [hK]
          exact ⟨_, rfl, ⟨vs, SqT.later (W := W) h1 (Lt.refl (k := kE))⟩, hk S' H' l g (by rw [← r.length]; exact h2) _ (jok_tup h1 r)⟩
        | _ => cases hd
/-! range -/
def rangeL (lo : Int) (n : Nat) : List D := (List.range n).map fun (i : Nat) => D.int (lo + (i : Int))
def rangeD1 : List D → EM (List D)
  | [.int j] => guardE (decide (-(2 ^ 62) ≤ j ∧ j < 2 ^ 62 ∧ j.toNat ≤ big)) (pureE (rangeL 0 j.toNat))
  | _ => failE
def rangeD2 : List D → EM (List D)
  | [.int i, .int j] => guardE (decide (-(2 ^ 62) ≤ i ∧ i < 2 ^ 62 ∧ -(2 ^ 62) ≤ j ∧ j < 2 ^ 62 ∧ (j - i).toNat ≤ big)) (pureE (rangeL i (j - i).toNat))
  | _ => failE
theorem jok_range {lo : Int} {n : Nat} : JOk W k S H (Itr lo n) (rangeL lo n) := by
  intro S' H' l hw
  refine ⟨fun i d e => ?_, by show n ≤ (rangeL lo n).length; simp [rangeL]⟩
  unfold rangeL at e
  rw [List.getElem?_map] at e
  obtain ⟨j, hj, rfl⟩ := map_some e
  obtain ⟨hl, hj⟩ := List.getElem?_eq_some_iff.mp hj
  simp at hj hl
  subst hj
  refine ⟨hl, fun x H'' ⟨e1, e2⟩ => ?_⟩
  subst e1 e2
  exact ⟨.refl, fun _ g => g, .int _⟩
theorem rangeL_len {lo : Int} {n : Nat} : (rangeL lo n).length = n := by simp [rangeL]
theorem src_range1 {a : Expr} {p pos : Pos} {g : Env → EM (List D)} (hg : Gl X "range") (hm : X.mg "range" = none) (ha : PA X [a] (tEvBs W Wx g)) (hs : starEach [a] X.env = [(false, eval a X.env)]) : PI X tg (.Call (.Name "range" p) [a] [] pos) (tSrc' W Wx k (fCB rangeD1 g)) :=
  PI.imp (pi_range1 hg hm ha hs) fun σ H R ⟨S, μ, env, res, hS, hE, hf, hk⟩ => by
    refine tG.bind hS hE hf hk fun ds μ1 S1 H1 l1 g1 e1 hf1 hk1 vs rvs => ?_
    unfold rangeD1 at hf1
    split at hf1
    · obtain ⟨hl, hf1⟩ := guardE_some hf1
      cases hf1
      have hl := of_decide_eq_true hl
      obtain ⟨v, rfl, rv⟩ := rvs.one
      cases rv.int
      exact ⟨_, rfl, hl.1, hl.2.1, hk1.now g1 (by rw [rangeL_len]; exact hl.2.2) _ jok_range⟩
    · cases hf1
theorem src_range2 {a b : Expr} {p pos : Pos} {g : Env → EM (List D)} (hg : Gl X "range") (hm : X.mg "range" = none) (ha : PA X [a, b] (tEvBs W Wx g)) (hs : starEach [a, b] X.env = [(false, eval a X.env), (false, eval b X.env)]) (hs2 : starEach [b] X.env = [(false, eval b X.env)]) :
    PI X tg (.Call (.Name "range" p) [a, b] [] pos) (tSrc' W Wx k (fCB rangeD2 g)) :=
  PI.imp (pi_range2 hg hm ha hs hs2) fun σ H R ⟨S, μ, env, res, hS, hE, hf, hk⟩ => by
    refine tG.bind hS hE hf hk fun ds μ1 S1 H1 l1 g1 e1 hf1 hk1 vs rvs => ?_
    unfold rangeD2 at hf1
    split at hf1
    · obtain ⟨hl, hf1⟩ := guardE_some hf1
      cases hf1
      have hl := of_decide_eq_true hl
      obtain ⟨v, w, rfl, rv, rw'⟩ := rvs.two
      cases rv.int; cases rw'.int
      exact ⟨_, _, rfl, ⟨hl.1, hl.2.1, hl.2.2.1, hl.2.2.2.1⟩, hk1.now g1 (by rw [rangeL_len]; exact hl.2.2.2.2) _ jok_range⟩
    · cases hf1
/-! a text, sign by sign -/
def fSigns (f : Env → EM D) : Env → EM (List D) := fun env => bindE (f env) fun d => match d with
  | .str s => pureE (signs s)
  | _ => failE
theorem src_str {l : Expr} {f : Env → EM D} (hl : PE X l (tEvB W Wx f)) : PI X tg l (tSrc' W Wx k (fSigns f)) :=
  PI.imp (pi_str hl) fun σ H R ⟨S, μ, env, res, hS, hE, hf, hk⟩ => by
    refine tG.bind hS hE hf hk fun d μ1 S1 H1 l1 g1 e1 hf1 hk1 v rv => ?_
    cases d <;> first
      | (cases hf1; done)
      | skip
    rename_i s
    cases hf1
    obtain ⟨rfl, hl⟩ := rv.str
    exact ⟨s, rfl, hk1.now g1 (by unfold signs; rw [List.length_map]; exact hl) _ jok_text⟩
/-! enumerate, zip -/
def enumL (n : Nat) : List D → List D
  | [] => []
  | d :: r => .tup [.int (n : Int), d] :: enumL (n + 1) r
theorem enumL_get : ∀ (ds : List D) (n i : Nat) (d : D), (enumL n ds)[i]? = some d → ∃ e, ds[i]? = some e ∧ d = .tup [.int ((n + i : Nat) : Int), e]
  | [], n, i, d, h => by simp [enumL] at h
  | x :: r, n, 0, d, h => by simp [enumL] at h; exact ⟨x, rfl, by simp [h]⟩
  | x :: r, n, i + 1, d, h => by
    obtain ⟨e, h1, h2⟩ := enumL_get r (n + 1) i d (by simpa [enumL] using h)
    exact ⟨e, by simpa using h1, by rw [h2]; congr 3; omega⟩
theorem enumL_len : ∀ (ds : List D) (n : Nat), (enumL n ds).length = ds.length
  | [], _ => rfl
  | x :: r, n => by simp [enumL, enumL_len r (n + 1)]
/-- the items of a list or tuple that is data; κ: a tuple -/
def seqI : D → Option (Bool × List D)
  | .lst xs => some (false, xs)
  | .tup xs => some (true, xs)
  | _ => none
def StG (W : Wd) (S : Ws) (H : Hp) (κ : Bool) (a : Addr) (vs : List V) : Prop := match κ with
  | false => H a = some (.lst vs) ∧ S.Ow a = none
  | true => (H a = some (.tup vs) ∧ S.Ow a = none) ∨ TupK W.K a vs
theorem StG.later {κ : Bool} {a : Addr} {vs : List V} (h : StG W S H κ a vs) (l : Lt k S H S' H') : SqG W.K κ H' a vs := by
  cases κ with
  | false => exact SqL.of (l.dat a _ h.2 h.1).2
  | true => exact SqT.later h l
theorem seqI_rep {v : V} {d : D} {κ : Bool} {ds : List D} (h : RepV W S H v d) (e : seqI d = some (κ, ds)) : ∃ a vs, v = .ref a ∧ StG W S H κ a vs ∧ vs.length ≤ big ∧ RepVs W S H vs ds := by
  cases d with
  | lst xs =>
    cases e
    cases h with
    | lst h1 h2 h3 h4 => exact ⟨_, _, rfl, ⟨h1, h2⟩, h3, h4⟩
  | tup xs =>
    cases e
    obtain ⟨a, vs, e1, e2, e3, e4⟩ := h.tupH
    exact ⟨a, vs, e1, e2, e3, e4⟩
  | _ => cases e
def enumD : List D → EM (List D)
  | [d] => optE ((seqI d).map fun p => enumL 0 p.2)
  | _ => failE
theorem jok_enum {κ : Bool} {a : Addr} {vs : List V} {ds : List D} (h1 : StG W S H κ a vs) (r : RepVs W S H vs ds) : JOk W k S H (IteG W.K κ a) (enumL 0 ds) := by
  intro S' H' l hw
  have h2 : SqG W.K κ H' a vs := h1.later l
  have r2 := r.later l
  refine ⟨fun i d e => ?_, vs, h2, by rw [enumL_len, r2.length]⟩
  obtain ⟨e', he, rfl⟩ := enumL_get ds 0 i d e
  obtain ⟨v, hv, rv⟩ := r2.get he
  refine ⟨⟨vs, v, h2, hv⟩, fun x H'' ⟨T, y, e1, e2, e3, e4⟩ => ?_⟩
  have := e4 vs h2
  rw [hv] at this
  cases this
  subst e1 e3
  have lt : LtE S' H' S' (upd H' T (.tup [.int (i : Nat), v])) := lt_upd e2 hw
  have hT : S'.Ow T = none := by
    cases z : S'.Ow T with
    | none => rfl
    | some w => obtain ⟨u, q⟩ := hw T w z; rw [e2] at q; cases q
  exact ⟨lt, fun μ g => g.upd e2, .tup upd_same hT (by show 2 ≤ big; decide) (.cons (by rw [Nat.zero_add]; exact .int _) (.cons (rv.later lt) .nil))⟩
theorem src_enum (hK : X.K = W.K) {e : Expr} {p pos tpos : Pos} {elts : List Expr} {kk : Nat} {g : Env → EM (List D)} (hg : Gl X "enumerate") (hm : X.mg "enumerate" = none) (ha : PA X [e] (tEvs W Wx g)) (hs : starEach [e] X.env = [(false, eval e X.env)]) :
    PI X (.Tuple elts kk tpos) (.Call (.Name "enumerate" p) [e] [] pos) (tSrc' W Wx k (fCB enumD g)) :=
  PI.imp (pi_enumG hg hm ha hs) fun σ H R ⟨S, μ, env, res, hS, hE, hf, hk⟩ => by
    refine tG.bind hS hE hf hk fun ds μ1 S1 H1 l1 g1 e1 hf1 hk1 vs rvs => ?_
    unfold enumD at hf1
    split at hf1
    · rename_i d
      obtain ⟨ys, hy, rfl⟩ := optE_some hf1
      obtain ⟨⟨κ, xs⟩, hx, rfl⟩ := map_some hy
      cases rvs with
      | cons rv t =>
        cases t
        obtain ⟨a, us, rfl, h1, h3, h4⟩ := seqI_rep rv hx
        rw [hK]
        exact ⟨κ, _, _, rfl, h1.later (Lt.refl (k := kE)), hk1.now g1 (by rw [enumL_len, ← h4.length]; exact h3) _ (jok_enum h1 h4)⟩
    · cases hf1
def zipL : List D → List D → List D
  | a :: r, b :: s => .tup [a, b] :: zipL r s
  | _, _ => []
theorem zipL_get : ∀ (xs ys : List D) (i : Nat) (d : D), (zipL xs ys)[i]? = some d → ∃ a b, xs[i]? = some a ∧ ys[i]? = some b ∧ d = .tup [a, b]
  | [], ys, i, d, h => by simp [zipL] at h
  | x :: r, [], i, d, h => by simp [zipL] at h
  | x :: r, y :: s, 0, d, h => by simp [zipL] at h; exact ⟨x, y, rfl, rfl, h.symm⟩
  | x :: r, y :: s, i + 1, d, h => by
    obtain ⟨a, b, h1, h2, h3⟩ := zipL_get r s i d (by simpa [zipL] using h)
    exact ⟨a, b, by simpa using h1, by simpa using h2, h3⟩
theorem zipL_len : ∀ (xs ys : List D), (zipL xs ys).length = min xs.length ys.length
  | [], ys => by simp [zipL]
  | x :: r, [] => by simp [zipL]
  | x :: r, y :: s => by simp [zipL, zipL_len r s]
def zipD : List D → EM (List D)
  | [d, e] => optE ((seqI d).bind fun p => (seqI e).map fun q => zipL p.2 q.2)
  | _ => failE
theorem jok_zip {κ κ' : Bool} {a b : Addr} {vs ws : List V} {ds es : List D} (h1 : StG W S H κ a vs) (r : RepVs W S H vs ds) (h1' : StG W S H κ' b ws) (r' : RepVs W S H ws es) : JOk W k S H (ItzG W.K κ κ' a b) (zipL ds es) := by
  intro S' H' l hw
  have h2 := h1.later l
  have h2' := h1'.later l
  have r2 := r.later l
  have r2' := r'.later l
  refine ⟨fun i d e => ?_, vs, ws, h2, h2', by rw [zipL_len, r2.length, r2'.length]⟩
  obtain ⟨x, y, hx, hy, rfl⟩ := zipL_get ds es i d e
  obtain ⟨v, hv, rv⟩ := r2.get hx
  obtain ⟨w, hw', rw'⟩ := r2'.get hy
  refine ⟨⟨vs, ws, v, w, h2, h2', hv, hw'⟩, fun x H'' ⟨T, p, q, e1, e2, e3, e4, e5⟩ => ?_⟩
  have z1 := e4 vs h2
  rw [hv] at z1
  cases z1
  have z2 := e5 ws h2'
  rw [hw'] at z2
  cases z2
  subst e1 e3
  have lt : LtE S' H' S' (upd H' T (.tup [v, w])) := lt_upd e2 hw
  have hT : S'.Ow T = none := by
    cases z : S'.Ow T with
    | none => rfl
    | some w => obtain ⟨u, q⟩ := hw T w z; rw [e2] at q; cases q
  exact ⟨lt, fun μ g => g.upd e2, .tup upd_same hT (by show 2 ≤ big; decide) (.cons (rv.later lt) (.cons (rw'.later lt) .nil))⟩
theorem src_zip (hK : X.K = W.K) {e e2 : Expr} {p pos tpos : Pos} {elts : List Expr} {kk : Nat} {g : Env → EM (List D)} (hg : Gl X "zip") (hm : X.mg "zip" = none) (ha : PA X [e, e2] (tEvs W Wx g)) (hs : starEach [e, e2] X.env = (false, eval e X.env) :: starEach [e2] X.env) (hpl : (backTo pos (starEach [e2] X.env)).any (·.1) = false) :
    PI X (.Tuple elts kk tpos) (.Call (.Name "zip" p) [e, e2] [] pos) (tSrc' W Wx k (fCB zipD g)) :=
  PI.imp (pi_zipG hg hm ha hs hpl) fun σ H R ⟨S, μ, env, res, hS, hE, hf, hk⟩ => by
    refine tG.bind hS hE hf hk fun ds μ1 S1 H1 l1 g1 e1 hf1 hk1 vs rvs => ?_
    unfold zipD at hf1
    split at hf1
    · obtain ⟨ys, hy, rfl⟩ := optE_some hf1
      obtain ⟨⟨κ, xs⟩, hx, hy⟩ := Option.bind_eq_some_iff.mp hy
      obtain ⟨⟨κ', ys⟩, hx', rfl⟩ := map_some hy
      cases rvs with
      | cons rv t =>
        cases t with
        | cons rw' t =>
          cases t
          obtain ⟨a, us, rfl, h1, h3, h4⟩ := seqI_rep rv hx
          obtain ⟨b, us', rfl, h1', h3', h4'⟩ := seqI_rep rw' hx'
          rw [hK]
          exact ⟨κ, κ', _, _, _, _, rfl, h1.later (Lt.refl (k := kE)), h1'.later (Lt.refl (k := kE)), hk1.now g1 (by rw [zipL_len, ← h4.length, ← h4'.length]; exact Nat.le_trans (Nat.min_le_left _ _) h3) _ (jok_zip h1 h4 h1' h4')⟩
    · cases hf1

/-! for -/
def loopF (p : Pat) (body : SM) : List D → SM
  | [], env, μ => some (.nx env, μ)
  | d :: r, env, μ => match bindP p d env with
    | none => none
    | some env1 => match body env1 μ with
      | some (.nx env2, μ2) => loopF p body r env2 μ2
      | some (.ct env2, μ2) => loopF p body r env2 μ2
      | some (.br env2, μ2) => some (.nx env2, μ2)
      | r => r
def fFor (p : Pat) (src : Env → EM (List D)) (body : SM) : SM := liftE src fun ds => loopF p body ds
theorem loop_of {p : Pat} {body : SM} {J : It} {ds : List D} {S0 : Ws} {H0 : Hp} (hJ : JOk W kS S0 H0 J ds) {r : SO × Mu} (hS : Sg W S0 H0 μ) (hE : EnvOk W S0 H0 σ env) (hf : loopF p body ds env μ = some r) (hk : KS W S0 H0 Wx Dn r) :
    ∃ Wv : Nat → Nat → St → Hp → Prop, (∃ m, Wv 0 m σ H0) ∧ ∀ i m σ H, Wv i m σ H →
      (J.stop i H ∧ Dn.nx σ H) ∨ (J.go i H ∧ ∃ N : St → Hp → Prop, (∀ σ' H', N σ' H' → ∃ m', m' < m ∧ Wv (i + 1) m' σ' H') ∧ ∀ x H', J.yld i H x H' → tTg W p x σ H' fun σ2 H2 => tSt W Wx body { Dn with nx := N, ct := N, bk := Dn.nx } σ2 H2) := by
  let Wv : Nat → Nat → St → Hp → Prop := fun i m σ H => m = ds.length - i ∧ i ≤ ds.length ∧ ∃ S env μ, LtS S0 H0 S H ∧ Sg W S H μ ∧ EnvOk W S H σ env ∧ loopF p body (ds.drop i) env μ = some r
  refine ⟨Wv, ⟨ds.length, by simp, Nat.zero_le _, S0, env, μ, .refl, hS, hE, by simpa using hf⟩, ?_⟩
  rintro i m σ' H' ⟨rfl, hi, S, env', μ', l, g, e, hf'⟩
  obtain ⟨hgo, hstop⟩ := hJ S H' l g.wf
  by_cases hlt : i < ds.length
  · have hd : ds.drop i = ds[i] :: ds.drop (i + 1) := List.drop_eq_getElem_cons hlt
    rw [hd] at hf'
    have hget : ds[i]? = some ds[i] := List.getElem?_eq_getElem hlt
    obtain ⟨h1, h2⟩ := hgo i _ hget
    refine .inr ⟨h1, fun σ2 H2 => Wv (i + 1) (ds.length - (i + 1)) σ2 H2, fun σ2 H2 q => ⟨_, by omega, q⟩, fun x H'' y => ?_⟩
    obtain ⟨lt, gk, rx⟩ := h2 x H'' y
    unfold loopF at hf'
    cases z : bindP p ds[i] env' with
    | none => rw [z] at hf'; cases hf'
    | some env1 =>
      rw [z] at hf'
      have hf' : (match body env1 μ' with
        | some (.nx env2, μ2) => loopF p body (ds.drop (i + 1)) env2 μ2
        | some (.ct env2, μ2) => loopF p body (ds.drop (i + 1)) env2 μ2
        | some (.br env2, μ2) => some (.nx env2, μ2)
        | r => r) = some r := hf'
      refine ⟨S, μ', env', env1, ds[i], gk _ g, e.laterE lt, rx, z, fun σ3 e3 _ => ?_⟩
      cases q : body env1 μ' with
      | none => rw [q] at hf'; cases hf'
      | some r1 =>
        rw [q] at hf'
        obtain ⟨o, μ2⟩ := r1
        have lS : LtS S0 H0 S H'' := l.trans lt.toS
        have nxt : ∀ env2, loopF p body (ds.drop (i + 1)) env2 μ2 = some r → ∀ S2 H2 σ2, LtS S H'' S2 H2 → Sg W S2 H2 μ2 → EnvOk W S2 H2 σ2 env2 → Wv (i + 1) (ds.length - (i + 1)) σ2 H2 := fun env2 hq S2 H2 σ2 l2 g2 e2 => ⟨rfl, hlt, S2, env2, μ2, lS.trans l2, g2, e2, hq⟩
        refine ⟨S, μ', env1, _, gk _ g, e3, q, ?_⟩
        cases o with
        | nx env2 => exact nxt env2 hf'
        | ct env2 => exact nxt env2 hf'
        | br env2 => cases hf'; exact fun S2 H2 σ2 l2 g2 e2 => hk S2 H2 σ2 (lS.trans l2) g2 e2
        | rt d => cases hf'; exact fun S2 H2 v l2 => hk S2 H2 v (lS.trans l2)
        | exc c fs env2 => cases hf'; exact fun S2 H2 σ2 dd vs l2 => hk S2 H2 σ2 dd vs (lS.trans l2)
  · have hi' : i = ds.length := by omega
    subst hi'
    rw [List.drop_length] at hf'
    cases hf'
    exact .inl ⟨hstop, hk S H' σ' l g e⟩
theorem es_for {iter : Expr} {body : List Stmt} {pos : Pos} {p : Pat} {f : Env → EM (List D)} {F : SM} (hp : PassesOwn (model X.prog X.w) X.A X.env X.xe) (hc : X.calm = true) (hi : PI X tg iter (tSrc' W Wx kS f)) (hg : PG X tg (tTg W p)) (hb : PSs X body (tSt W Wx F))
    (hs : ∀ x, foldedSetIterable iter X.env x = pure x) : PS X (.For tg iter body [] pos) (tSt W Wx (fFor p f F)) :=
  PS.imp (ps_for hp hc hi hg hb hs) fun D σ H h => tG.lift h fun S μ env ds μ1 S1 H1 r hS l g hE hf hk hl J hJ => by
    exact loop_of hJ g hE hf (hk.later l.toS)
end
end EG
namespace EG
open PySem L2

/-! list comprehensions -/
def wipeE (env : Env) : List Nat → Env
  | [] => env
  | v :: vs => (wipeE env vs).set v .no
/-- nothing may be raised -/
def noX {α : Type} (m : EM α) : EM α := fun μ => match m μ with
  | some (.exc _ _, _) => none
  | r => r
def compL (p : Pat) (cond : Env → EM Bool) (elt : Env → EM D) (env : Env) : List D → EM (List D)
  | [] => pureE []
  | d :: r => match bindP p d env with
    | none => failE
    | some env1 => bindE (noX (cond env1)) fun b => match b with
      | true => bindE (noX (elt env1)) fun x => bindE (compL p cond elt env r) fun xs => pureE (x :: xs)
      | false => compL p cond elt env r
def fComp (vs : List Nat) (p : Pat) (src : Env → EM (List D)) (cond : Env → EM Bool) (elt : Env → EM D) : Env → EM (List D) := fun env => bindE (src env) fun ds => compL p cond elt (wipeE env vs) ds
def fYes : Env → EM Bool := fun _ => pureE true
abbrev Wx0 : WX := fun _ _ _ _ => False
section
variable {W : Wd} {S S' S1 : Ws} {H H' H1 : Hp} {σ : St} {env : Env} {μ : Mu} {Wx : WX} {α β : Type} {X : Cx} {Dn : Ends} {k : Own → Prop} {tg : Expr}
theorem wipeE_length (env : Env) : ∀ vs : List Nat, (wipeE env vs).length = env.length
  | [] => rfl
  | v :: vs => by unfold wipeE; rw [List.length_set, wipeE_length env vs]
theorem EnvOk.wipe (h : EnvOk W S H σ env) : ∀ vs : List Nat, EnvOk W S H (wipe σ vs) (wipeE env vs)
  | [] => h
  | v :: vs => by
    have ih := EnvOk.wipe h vs
    refine ⟨by rw [wipe_length, wipeE_length]; exact h.len, fun j sl e => ?_⟩
    unfold wipeE at e
    unfold L2.wipe
    by_cases hj : j = v
    · subst hj
      by_cases hl : j < (wipeE env vs).length
      · rw [List.getElem?_set_self hl] at e
        cases e
        trivial
      · rw [List.getElem?_eq_none (by rw [List.length_set]; omega)] at e
        cases e
    · rw [List.getElem?_set_ne (Ne.symm hj)] at e ⊢
      exact ih.at_ j sl e
theorem wipe_get (σ : St) : ∀ (vs : List Nat) (j : Nat), j ∈ vs → j < σ.length → (wipe σ vs)[j]? = some none
  | [], j, h, _ => by simp at h
  | v :: vs, j, h, hl => by
    unfold wipe
    by_cases e : j = v
    · subst e
      rw [List.getElem?_set_self (by rw [wipe_length]; exact hl)]
    · rw [List.getElem?_set_ne (Ne.symm e)]
      exact wipe_get σ vs j (by simpa [e] using h) hl
theorem wipe_get_ne (σ : St) : ∀ (vs : List Nat) (j : Nat), j ∉ vs → (wipe σ vs)[j]? = σ[j]?
  | [], j, _ => rfl
  | v :: vs, j, h => by
    unfold wipe
    simp only [List.mem_cons, not_or] at h
    rw [List.getElem?_set_ne (Ne.symm h.1)]
    exact wipe_get_ne σ vs j h.2
theorem wipe_agree {vs ps : List Nat} {σ σ' : St} (hp : ∀ i ∈ ps, i ∈ vs) (a : Agree ps (wipe σ vs) σ') : wipe σ' vs = wipe σ vs := by
  have hl : σ'.length = σ.length := a.1.trans (wipe_length σ vs)
  refine List.ext_getElem? fun j => ?_
  by_cases h : j ∈ vs
  · by_cases hj : j < σ.length
    · rw [wipe_get _ _ _ h hj, wipe_get _ _ _ h (by rw [hl]; exact hj)]
    · rw [List.getElem?_eq_none (by rw [wipe_length, hl]; omega), List.getElem?_eq_none (by rw [wipe_length]; omega)]
  · rw [wipe_get_ne _ _ _ h, a.2 j (fun z => h (hp j z))]
theorem noX_some {m : EM α} {r : Out α × Mu} (h : noX m μ = some r) : ∃ a μ', m μ = some (.ok a, μ') ∧ r = (.ok a, μ') := by
  unfold noX at h
  cases e : m μ with
  | none => rw [e] at h; cases h
  | some q =>
    obtain ⟨o, μ'⟩ := q
    rw [e] at h
    cases o with
    | ok a => cases h; exact ⟨a, μ', rfl, rfl⟩
    | exc c fs => cases h
theorem bind_noX {m : EM α} {g : α → EM β} {r : Out β × Mu} (h : bindE (noX m) g μ = some r) : ∃ a μ', m μ = some (.ok a, μ') ∧ g a μ' = some r := by
  unfold bindE at h
  cases e : noX m μ with
  | none => rw [e] at h; cases h
  | some q =>
    obtain ⟨a, μ', e1, rfl⟩ := noX_some e
    rw [e] at h
    exact ⟨a, μ', e1, h⟩
theorem compL_ok {p : Pat} {cond : Env → EM Bool} {elt : Env → EM D} {env : Env} : ∀ {ds : List D} {μ : Mu} {r : Out (List D) × Mu}, compL p cond elt env ds μ = some r → ∃ xs μ', r = (.ok xs, μ')
  | [], μ, r, h => by cases h; exact ⟨_, _, rfl⟩
  | d :: ds, μ, r, h => by
    unfold compL at h
    cases z : bindP p d env with
    | none => rw [z] at h; cases h
    | some env1 =>
      rw [z] at h
      obtain ⟨b, μ1, h1, h⟩ := bind_noX h
      cases b with
      | false => exact compL_ok h
      | true =>
        obtain ⟨x, μ2, h2, h⟩ := bind_noX h
        unfold bindE at h
        cases q : compL p cond elt env ds μ2 with
        | none => rw [q] at h; cases h
        | some r2 =>
          obtain ⟨xs, μ', rfl⟩ := compL_ok q
          rw [q] at h
          cases h
          exact ⟨_, _, rfl⟩
/-- a write at what is owned: data does not feel it -/
theorem lt_own_write {p : Addr} {o : HO} {w : Own} (hp : S.Ow p = some w) (hc : ∀ n, w ≠ .cell n) : Lt (fun _ => False) S H S (upd H p o) where
  dat := fun a u e q => by
    have : a ≠ p := fun z => by rw [z, hp] at e; cases e
    rw [upd_ne this]; exact ⟨e, q⟩
  own := fun _ _ _ h => h.elim
  cel := fun n a e q => ⟨e, q⟩
  mem := upd_mem
theorem Sg.own_write (g : Sg W S H μ) {p : Addr} {o : HO} {w : Own} (hp : S.Ow p = some w) (hc : ∀ n, w ≠ .cell n) (hx : w ≠ .cap := by exact fun z => nomatch z) : Sg W S (L2.upd H p o) μ where
  wf := fun a x e => by
    obtain ⟨u, q⟩ := g.wf a x e
    by_cases h : a = p
    · subst h; exact ⟨o, upd_same⟩
    · exact ⟨u, by rw [upd_ne h]; exact q⟩
  len := g.len
  cells := fun n c e hi => by
    obtain ⟨a, e1, e2, r⟩ := g.cells n c e hi
    have : a ≠ p := fun z => by rw [z, hp] at e2; cases e2; exact hc n rfl
    exact ⟨a, e1, e2, r.later (lt_own_write hp hc) (by rw [upd_ne this])⟩
  ext := g.ext.keep (lt_own_write (o := o) (H := H) hp hc).dat (lt_own_write (o := o) (H := H) hp hc).cel (fun a x e h => by
    have : a ≠ p := fun z => by
      rw [z, hp] at e
      cases e
      exact hx h
    exact ⟨e, by rw [upd_ne this]⟩) fun _ z => z
/-- a write at what was not there -/
theorem lt_write {p : Addr} {o : HO} (hS : ∀ a w, S.Ow a = some w → ∃ u, H a = some u) (hp : H p = none) (l : LtE S H S1 H1) : LtE S H S1 (upd H1 p o) where
  dat := fun a u e q => by
    have : a ≠ p := ne_of_none q hp
    rw [upd_ne this]; exact l.dat a u e q
  own := fun a w e k => by
    obtain ⟨u, q⟩ := hS a w e
    have : a ≠ p := ne_of_none q hp
    rw [upd_ne this]; exact l.own a w e k
  cel := l.cel
  mem := fun a h => upd_mem a (l.mem a h)
theorem big_lt {n m : Nat} (h : n < m) (hm : m ≤ big) : n < sizeLine := Nat.lt_of_lt_of_le (Nat.lt_of_lt_of_le h hm) big_le
theorem lc_of {vs : List Nat} {p : Pat} {src : Env → EM (List D)} {cond : Env → EM Bool} {elt : Env → EM D} {Q : VK} (hp : ∀ i ∈ p.slots, i ∈ vs) (h : tEvL W Wx (fComp vs p src cond elt) σ H Q) :
    tLc (tSrc' W Wx kE src) (tTg W p) (tEvT W Wx0 cond) (tEv W Wx0 elt) vs σ H Q := by
  obtain ⟨S, μ, env, res, hS, hE, hf, hk⟩ := h
  refine tG.bind hS hE hf hk fun ds μ1 S1 H1 l1 g1 e1 hf1 hk1 hlen J hJ D0 hD => ?_
  obtain ⟨tot, μ9, rfl⟩ := compL_ok hf1
  have hD0 : H D0 = none := by
    cases z : H D0 with
    | none => rfl
    | some o => exact absurd hD (l1.mem D0 (by rw [z]; exact fun z => nomatch z))
  let Wv : Nat → Nat → Hp → Prop := fun i m H2 => m = ds.length - i ∧ i ≤ ds.length ∧ ∃ S2 μ2 acc accD rest, LtE S1 H1 S2 H2 ∧ Sg W S2 H2 μ2 ∧ S2.Ow D0 = some .out ∧ H2 D0 = some (.lst acc) ∧ acc.length ≤ i ∧ RepVs W S2 H2 acc accD ∧
    compL p cond elt (wipeE env vs) (ds.drop i) μ2 = some (.ok rest, μ9) ∧ tot = accD ++ rest
  refine ⟨Wv, ⟨ds.length, by simp, Nat.zero_le _, S1.set D0 (some .out), μ1, [], [], tot, lt_new hD g1.wf, g1.new hD, Ws.set_same, upd_same, Nat.le_refl _, .nil, by simpa using hf1, rfl⟩, ?_⟩
  rintro i m H2 ⟨rfl, hi, S2, μ2, acc, accD, rest, l2, g2, o2, h2, n2, r2, c2, t2⟩
  obtain ⟨hgo, hstop⟩ := hJ S2 H2 l2 g2.wf
  by_cases hlt : i < ds.length
  · have hd : ds.drop i = ds[i] :: ds.drop (i + 1) := List.drop_eq_getElem_cons hlt
    rw [hd] at c2
    have hget : ds[i]? = some ds[i] := List.getElem?_eq_getElem hlt
    obtain ⟨q1, q2⟩ := hgo i _ hget
    refine .inr ⟨q1, fun H3 => Wv (i + 1) (ds.length - (i + 1)) H3, fun H3 q => ⟨_, by omega, q⟩, fun x H3 y => ?_⟩
    obtain ⟨lt, gk, rx⟩ := q2 x H3 y
    unfold compL at c2
    cases z : bindP p ds[i] (wipeE env vs) with
    | none => rw [z] at c2; cases c2
    | some env1 =>
      rw [z] at c2
      obtain ⟨b, μ3, k1, c3⟩ := bind_noX c2
      have e3 : EnvOk W S2 H3 (wipe σ vs) (wipeE env vs) := (((e1.laterE l2).laterE lt).wipe vs)
      refine ⟨S2, μ2, wipeE env vs, env1, ds[i], gk _ g2, e3, rx, z, fun σ3 e4 ag => ⟨wipe_agree hp ag, ?_⟩⟩
      refine ⟨S2, μ2, env1, _, gk _ g2, e4, k1, fun S4 H4 l4 g4 => okT_mk ?_⟩
      have lb : LtE S1 H1 S4 H4 := (l2.trans lt).trans l4
      have o4 := (lt.trans l4).own D0 _ o2 trivial
      have h4 : H4 D0 = some (.lst acc) := o4.2.trans h2
      have r4 : RepVs W S4 H4 acc accD := r2.later (lt.trans l4)
      cases b with
      | false =>
        refine iF Bool.false_ne_true ⟨rfl, hlt, S4, μ3, acc, accD, rest, lb, g4, o4.1, h4, by omega, r4, c3, t2⟩
      | true =>
        obtain ⟨d5, μ5, k5, c5⟩ := bind_noX c3
        refine iT rfl ⟨S4, μ3, env1, _, g4, e4.laterE l4, k5, fun S5 H5 l5 g5 v rv => ?_⟩
        unfold bindE at c5
        cases q : compL p cond elt (wipeE env vs) (ds.drop (i + 1)) μ5 with
        | none => rw [q] at c5; cases c5
        | some rr =>
          obtain ⟨xs, μ', rfl⟩ := compL_ok q
          rw [q] at c5
          cases c5
          have o5 := l5.own D0 _ o4.1 trivial
          have h5 : H5 D0 = some (.lst acc) := o5.2.trans h4
          have lw : Lt (fun _ => False) S5 H5 S5 (upd H5 D0 (.lst (acc ++ [v]))) := lt_own_write o5.1 fun n z => nomatch z
          refine ⟨acc, h5, big_lt (by omega) hlen, rfl, hlt, S5, μ5, acc ++ [v], accD ++ [d5], xs, lt_write g1.wf hD (lb.trans l5), g5.own_write o5.1 (fun n z => nomatch z), o5.1, upd_same, by rw [List.length_append]; simp; omega, ?_, q, by rw [t2]; simp⟩
          exact ((r4.later l5).append (.one rv)).later lw
  · have hi' : i = ds.length := by omega
    subst hi'
    rw [List.drop_length] at c2
    cases c2
    refine .inl ⟨hstop, ?_⟩
    rw [List.append_nil] at t2
    subst t2
    exact hk1 S2 H2 l2 g2 D0 acc hD0 o2 h2 (Nat.le_trans n2 hlen) r2
theorem ets_nil : PTs X [] (tEvT W Wx fYes) := ⟨fun pins s σ H Q I h => pts_nil.run pins s σ H Q I (by
  obtain ⟨S, μ, env, res, hS, hE, hf, hk⟩ := h
  cases hf
  have z := hk.now hS
  exact z)⟩
theorem ets_one {c : Expr} {f : Env → EM Bool} (h : PT X c (tEvT W Wx f)) : PTs X [c] (tEvT W Wx f) := pts_one h
theorem el_comp {elt tg iter : Expr} {ifs : List Expr} {scope : Scope} {own : List (Str × Nat)} {pos : Pos} {p : Pat} {src : Env → EM (List D)} {cond : Env → EM Bool} {fe : Env → EM D} (hc : X.calm = true) (hN : X.N.Nodup) (hi : PI X tg iter (tSrc' W Wx kE src)) (ok : BlkOk X.N X.env.scope scope own)
    (hp : ∀ i ∈ p.slots, i ∈ own.map (·.2))
    (hg : ∀ (s : Shared) (H : Hp) (C : Addr) (cl : List (Str × Addr)) (fp : List Addr), PG (X.blk s H scope (compEnvC scope cl C X.env) fp) tg (tTg W p))
    (ht : ∀ (s : Shared) (H : Hp) (C : Addr) (cl : List (Str × Addr)) (fp : List Addr), PTs (X.blk s H scope (compEnvC scope cl C X.env) fp) ifs (tEvT W Wx0 cond))
    (he : ∀ (s : Shared) (H : Hp) (C : Addr) (cl : List (Str × Addr)) (fp : List Addr), PE (X.blk s H scope (compEnvC scope cl C X.env) fp) elt (tEv W Wx0 fe)) (hs : ∀ x, foldedSetIterable iter X.env x = pure x) :
    PE X (.ListComp elt [⟨tg, iter, ifs, 0⟩] scope pos) (tEvL W Wx (fComp (own.map (·.2)) p src cond fe)) :=
  PE.imp (pe_lc hc hN hi ok hg ht he hs) fun σ H Q h => lc_of hp h
end
end EG
namespace EG
open PySem L2
section
variable {W : Wd} {S S' S1 : Ws} {H H' H1 : Hp} {σ : St} {env : Env} {μ : Mu} {Wx : WX} {α β : Type} {X : Cx}
/-! instances: data, or a cell -/
def objD (d : D) (μ : Mu) : Option (Nat × List (Str × D)) := match d with
  | .obj c fs => some (c, fs)
  | .cell n => match μ[n]? with
    | some (.obj c fs) => some (c, fs)
    | _ => none
  | _ => none
/-- the classes' attributes that are read off the instance -/
structure FldOk (W : Wd) (flds : List (Nat × Str)) : Prop where
  ok : ∀ c f, (c, f) ∈ flds → Cls W.K (W.ca c) ∧ NoAttr W.K (W.ca c) f
def getD (flds : List (Nat × Str)) (f : Str) (d : D) : EM D := fun μ => match objD d μ with
  | some (c, fs) => if (c, f) ∈ flds then (match fs.lookup f with
    | some v => some (.ok v, μ)
    | none => none) else none
  | none => none
def fGet (flds : List (Nat × Str)) (f : Str) (g : Env → EM D) : Env → EM D := fun env => bindE (g env) (getD flds f)
/-! methods -/
section
variable {CX : CXT} {k : Nat} {C f : Addr} {fd : FuncData} {ps : List Str} {m : Str} {sp : Sp} {dvs : List V} {dus : List Value} {E : St → XK} {o e : Expr} {es : List Expr} {apos pos : Pos} {ta : TE} {t : TA}
end
def isObj (c : Nat) (m : Str) (d : D) (μ : Mu) : Bool := match objD d μ with
  | some (c', fs) => c' == c && (fs.lookup m).isNone
  | none => false
def fMeth (c : Nat) (m : Str) (n : Nat) (F : Fn) (dds : List D) (go : Env → EM D) (ga : Env → EM (List D)) : Env → EM D := fun env => bindE (go env) fun d μ => match isObj c m d μ with
  | true => bindE (ga env) (fun ds => guardE (decide (ds.length + dds.length + 1 = n)) (F (d :: (ds ++ dds)))) μ
  | false => none
section
variable {k n c : Nat} {f : Addr} {fd : FuncData} {ps : List Str} {m : Str} {o e : Expr} {es : List Expr} {apos pos : Pos} {F : Fn} {go : Env → EM D} {ga : Env → EM (List D)} {dds : List D} {dvs : List V} {dus : List Value}
end
end
end EG
namespace EG
open PySem L2
section
variable {X : Cx} {CX : CXT} {k n : Nat} {f C : Addr} {fd : FuncData} {ps ks : List Str} {sp : Sp} {E : St → XK} {x m : Str} {p apos pos : Pos} {o e : Expr} {es : List Expr} {kws : List Keyword} {ta : TE} {t tk : TA} {g : List Value → List Value → List Value} {gV : List V → List V → List V}
/-! a callee runs, whatever way it is bound -/
end
end EG
namespace EG
open PySem L2
/-! the cells that data names lie below n -/
mutual
def bel (n : Nat) : D → Bool
  | .cell m => decide (m < n)
  | .lst xs => bels n xs
  | .tup xs => bels n xs
  | .obj _ fs => belF n fs
  | .dK kvs => belK n kvs
  | .dT kvs => belT n kvs
  | .err _ fs => belF n fs
  | _ => true
def bels (n : Nat) : List D → Bool
  | [] => true
  | d :: r => bel n d && bels n r
def belF (n : Nat) : List (Str × D) → Bool
  | [] => true
  | (_, d) :: r => bel n d && belF n r
def belK (n : Nat) : List (Key × D) → Bool
  | [] => true
  | (_, d) :: r => bel n d && belK n r
def belT (n : Nat) : List (List Key × D) → Bool
  | [] => true
  | (_, d) :: r => bel n d && belT n r
end
def belC (n : Nat) : Cell → Bool
  | .lst xs => bels n xs
  | .obj _ fs => belF n fs
  | .dK kvs => belK n kvs
  | .dT kvs => belT n kvs
  | _ => true
section
variable {W : Wd} {S S' S1 : Ws} {H H' H1 : Hp} {σ : St} {env : Env} {μ : Mu} {Wx : WX} {α β : Type} {X : Cx} {n : Nat}
mutual
theorem RepV.bel (hn : S.ρ.length ≤ n) : ∀ {v : V} {d : D}, RepV W S H v d → bel n d = true
  | _, _, .non => rfl
  | _, _, .bl b => rfl
  | _, _, .int i => rfl
  | _, _, .str s h => rfl
  | _, _, .lst _ _ _ h => by unfold EG.bel; exact RepVs.bel hn h
  | _, _, .tup _ _ _ h => by unfold EG.bel; exact RepVs.bel hn h
  | _, _, .tupK _ _ h => by unfold EG.bel; exact RepVs.bel hn h
  | _, _, .obj _ _ h => by unfold EG.bel; exact RepFs.bel hn h
  | _, _, .cell h _ => by unfold EG.bel; exact decide_eq_true (Nat.lt_of_lt_of_le (List.getElem?_eq_some_iff.mp h).1 hn)
  | _, _, .scr _ _ _ _ => rfl
  | _, _, .scrK _ _ => rfl
  | _, _, .dK _ _ _ h => by unfold EG.bel; exact RepKs.bel hn h
  | _, _, .dT _ _ _ h => by unfold EG.bel; exact RepTs.bel hn h
  | _, _, .cls => rfl
  | _, _, .err _ _ _ _ h => by unfold EG.bel; exact RepFs.bel hn h
  | _, _, .clo _ _ _ _ _ _ => rfl
  | _, _, .clo1 _ _ _ _ _ _ _ _ => rfl
theorem RepVs.bel (hn : S.ρ.length ≤ n) : ∀ {v : List V} {d : List D}, RepVs W S H v d → bels n d = true
  | _, _, .nil => rfl
  | _, _, .cons h r => by unfold bels; rw [RepV.bel hn h, RepVs.bel hn r]; rfl
theorem RepFs.bel (hn : S.ρ.length ≤ n) : ∀ {v : List (Str × V)} {d : List (Str × D)}, RepFs W S H v d → belF n d = true
  | _, _, .nil => rfl
  | _, _, .cons h r => by unfold belF; rw [RepV.bel hn h, RepFs.bel hn r]; rfl
theorem RepKs.bel (hn : S.ρ.length ≤ n) : ∀ {v : List (Key × V)} {d : List (Key × D)}, RepKs W S H v d → belK n d = true
  | _, _, .nil => rfl
  | _, _, .cons h r => by unfold belK; rw [RepV.bel hn h, RepKs.bel hn r]; rfl
theorem RepTs.bel (hn : S.ρ.length ≤ n) : ∀ {v : List (List Key × V)} {d : List (List Key × D)}, RepTs W S H v d → belT n d = true
  | _, _, .nil => rfl
  | _, _, .cons h r => by unfold belT; rw [RepV.bel hn h, RepTs.bel hn r]; rfl
end
theorem CellRep.bel {a : Addr} {c : Cell} (hn : S.ρ.length ≤ n) (h : CellRep W S H a c) : belC n c = true := by
  cases c with
  | lst ds => obtain ⟨vs, _, _, r⟩ := h; exact r.bel hn
  | obj c fs => obtain ⟨dx, vs, _, r⟩ := h; exact r.bel hn
  | dK ds => obtain ⟨vs, _, _, r⟩ := h; exact r.bel hn
  | dT ds => obtain ⟨vs, _, _, r⟩ := h; exact r.bel hn
  | cap _ => exact h.elim
  | tbl _ _ => rfl
end
end EG
namespace EG
open PySem L2
def attrOk : Expr → Bool
  | .Call (.Name _ _) [] [] _ => false
  | _ => true
theorem attrBase_of {o : Expr} {a : Str} {env : PySem.Env} {whole : Sem Value} (h : attrOk o = true) : attributeBase o a env whole = whole := by
  cases o with
  | Call f as ks p =>
    cases f <;> first
      | rfl
      | (cases as <;> first
          | rfl
          | (cases ks <;> first | rfl | cases h))
  | _ => rfl
section
variable {W : Wd} {S S' S1 : Ws} {H H' H1 : Hp} {μ : Mu}
/-- p, owned by out and new, becomes the next cell -/
theorem cell_new' {p : Addr} {c : Cell} {μ1 : Mu} (hS : Sg W S H μ) (hp : H p = none) (l : LtE S H S1 H1) (g1 : Sg W S1 H1 μ1) (ho : S1.Ow p = some .out) (r : CellRep W S1 H1 p c) :
    ∃ S2, LtE S H S2 H1 ∧ Sg W S2 H1 (μ1 ++ [c]) ∧ RepV W S2 H1 (.ref p) (.cell μ1.length) := by
  refine ⟨{ ρ := S1.ρ ++ [p], Ow := fun a => if a = p then some (.cell μ1.length) else S1.Ow a }, ?_, ?_, ?_⟩
  · refine ⟨fun a o e q => ?_, fun a w e k => ?_, fun n a e q => ?_, l.mem⟩
    · have : a ≠ p := fun z => by rw [z, hp] at q; cases q
      obtain ⟨h1, h2⟩ := l.dat a o e q
      exact ⟨by simp [this, h1], h2⟩
    · have : a ≠ p := fun z => by obtain ⟨u, z'⟩ := hS.wf a w e; rw [z, hp] at z'; cases z'
      obtain ⟨h1, h2⟩ := l.own a w e k
      exact ⟨by simp [this, h1], h2⟩
    · have : a ≠ p := fun z => by obtain ⟨u, z'⟩ := hS.wf a _ q; rw [z, hp] at z'; cases z'
      obtain ⟨h1, h2⟩ := l.cel n a e q
      refine ⟨?_, by simp [this, h2]⟩
      have hl := (List.getElem?_eq_some_iff.mp h1).1
      rw [List.getElem?_append_left hl]; exact h1
  · have md : ∀ a o, S1.Ow a = none → H1 a = some o → (if a = p then some (Own.cell μ1.length) else S1.Ow a) = none ∧ H1 a = some o := fun a o e q => by
      have : a ≠ p := fun z => by rw [z, ho] at e; cases e
      exact ⟨by simp [this, e], q⟩
    have mc : ∀ (n : Nat) a, S1.ρ[n]? = some a → S1.Ow a = some (.cell n) → (S1.ρ ++ [p])[n]? = some a ∧ (if a = p then some (Own.cell μ1.length) else S1.Ow a) = some (.cell n) := fun n a e q => by
      have : a ≠ p := fun z => by rw [z, ho] at q; cases q
      have hl := (List.getElem?_eq_some_iff.mp e).1
      exact ⟨by rw [List.getElem?_append_left hl]; exact e, by simp [this, q]⟩
    refine ⟨fun a w e => ?_, by simp [g1.len], fun n c' e hi => ?_, ?_⟩
    · by_cases h : a = p
      · subst h; exact g1.wf a _ ho
      · simp [h] at e; exact g1.wf a w e
    · by_cases hn : n < μ1.length
      · rw [List.getElem?_append_left hn] at e
        obtain ⟨a, e1, e2, r'⟩ := g1.cells n c' e hi
        obtain ⟨m1, m2⟩ := mc n a e1 e2
        exact ⟨a, m1, m2, r'.mono md mc rfl⟩
      · have hn' : n = μ1.length := by
          have := (List.getElem?_eq_some_iff.mp e).1
          simp at this; omega
        subst hn'
        rw [List.getElem?_append_right (Nat.le_refl _)] at e
        simp at e
        subst e
        refine ⟨p, ?_, by simp, r.mono md mc rfl⟩
        rw [← g1.len, List.getElem?_append_right (Nat.le_refl _)]
        simp
    · refine g1.ext.keep md mc (fun a w e h => ?_) fun z e => ?_
      · have : a ≠ p := fun z => by rw [z, ho] at e; cases e; cases h
        exact ⟨by simp [this, e], rfl⟩
      · by_cases h0 : 0 < μ1.length
        · rw [List.getElem?_append_left h0] at e; exact e
        · have : μ1 = [] := List.length_eq_zero_iff.mp (by omega)
          rw [this] at e
          simp at e
          subst e
          exact r.elim
  · refine .cell ?_ (by simp)
    show (S1.ρ ++ [p])[μ1.length]? = some p
    rw [← g1.len, List.getElem?_append_right (Nat.le_refl _)]
    simp
end
/-! C(..): the start runs on a new cell; fz: the cell becomes data behind it -/
open Classical in
noncomputable def mkF (fz : Bool) (r : Option (Out D × Mu)) (μ : Mu) : Option (Out D × Mu) := match r with
  | some (.ok .non, μ') => (match fz with
    | false => some (.ok (.cell μ.length), μ')
    | true => (match μ'.getLast? with
      | some (.obj c fs) => if μ' = μ ++ [.obj c fs] ∧ belF μ.length fs = true then some (.ok (.obj c fs), μ) else none
      | _ => none))
  | some (.exc c fs, μ') => some (.exc c fs, μ')
  | _ => none
noncomputable def mkE' (fz : Bool) (c n m N : Nat) (F : Fn) (arr : List D → List D → List D) (ds es : List D) : EM D := fun μ =>
  match decide (ds.length = n ∧ es.length = m ∧ (arr (.cell μ.length :: ds) es).length = N) with
  | true => mkF fz (F (arr (.cell μ.length :: ds) es) (μ ++ [.obj c []])) μ
  | false => none
noncomputable def fMk (fz : Bool) (c n m N : Nat) (F : Fn) (arr : List D → List D → List D) (ga gk : Env → EM (List D)) : Env → EM D := fun env => bindE (ga env) fun ds => bindE (gk env) fun es => mkE' fz c n m N F arr ds es
section
variable {W : Wd} {S S' S1 : Ws} {H H' H1 : Hp} {σ : St} {env : Env} {μ : Mu} {Wx : WX} {α β : Type} {X : Cx} {n : Nat}
/-- how a call's values stand in the parameters' order, as data -/
def ArrOk (W : Wd) (gV : List V → List V → List V) (arr : List D → List D → List D) : Prop := ∀ (S : Ws) (H : Hp) (vs zs : List V) (ds es : List D), RepVs W S H vs ds → RepVs W S H zs es → RepVs W S H (gV vs zs) (arr ds es)
open Classical in
end
end EG
namespace EG
open PySem L2
section
variable {W : Wd} {S S' S1 : Ws} {H H' H1 : Hp} {σ : St} {env : Env} {μ : Mu} {Wx : WX} {α β : Type} {X : Cx}
/-! keywords' values -/
theorem PK.imp {kws : List Keyword} {t t' : TA} (h : PK X kws t) (hi : ∀ σ H Q, t' σ H Q → t σ H Q) : PK X kws t' := ⟨fun pos pins s σ H Q I hw => h.run pos pins s σ H Q I (hi _ _ _ hw)⟩
theorem ek_nil : PK X [] (tEvs W Wx fNil) := PK.imp pk_nil fun σ H Q ⟨S, μ, env, res, hS, hE, hf, hk⟩ => by
  cases hf; exact hk.now hS _ .nil
theorem ek_cons {nm : Option Str} {kpos : Pos} {e : Expr} {kws : List Keyword} {f : Env → EM D} {g : Env → EM (List D)} (h : PE X e (tEv W Wx f)) (h2 : PK X kws (tEvs W Wx g)) : PK X (⟨nm, e, kpos⟩ :: kws) (tEvs W Wx (fCons f g)) :=
  PK.imp (pk_cons h h2) fun σ H Q ⟨S, μ, env, res, hS, hE, hf, hk⟩ => by
    refine tG.bind hS hE hf hk fun d μ1 S1 H1 l1 g1 e1 hf1 hk1 v rv => ?_
    refine tG.bind g1 e1 hf1 hk1 fun ds μ2 S2 H2 l2 g2 e2 hf2 hk2 vs rvs => ?_
    cases hf2
    exact hk2.now g2 _ (.cons (rv.later l2) rvs)
section
variable {k n N c : Nat} {f C : Addr} {fd : FuncData} {ps ks : List Str} {x m : Str} {p pos apos : Pos} {o e : Expr} {es : List Expr} {kws : List Keyword} {F : Fn} {ga gk : Env → EM (List D)} {go : Env → EM D} {arr : List D → List D → List D} {fz : Bool}
  {gB : List Value → List Value → List Value} {gV : List V → List V → List V}
/-- a property -/
def fProp (c : Nat) (n : Nat) (F : Fn) (dds : List D) (go : Env → EM D) : Env → EM D := fun env => bindE (go env) fun d μ => match objD d μ with
  | some (c', _) => (match c' == c && decide (dds.length + 1 = n) with
    | true => noX' (F (d :: dds)) μ
    | false => none)
  | none => none
where noX' (m : EM D) : EM D := fun μ => match m μ with
  | some (.exc _ _, _) => none
  | r => r
end
end
end EG
namespace EG
open PySem L2
section
variable {W : Wd} {S S' S1 : Ws} {H H' H1 : Hp} {σ : St} {env : Env} {μ : Mu} {Wx : WX} {X : Cx} {k : Nat} {C f : Addr} {fd : FuncData} {ps : List Str} {sp : Sp}
/-- the right side may stand there -/
def rightB (T : Isi) (c : Nat) (t : Tag) : Bool := match t with
  | .cls b => b == c || isi1 T (.cls b) (.cls c) == some false
  | t => isi1 T t (.cls c) == some false
def fOwn (c : Nat) (F : Fn) (T : Isi) (fa fb : Env → EM D) : Env → EM D := fun env => bindE (fa env) fun d => bindE (fb env) fun e => fun μ => match objD d μ, tagD e μ with
  | some (c', _), some t => (match c' == c && rightB T c t with
    | true => (match F [d, e] μ with
      | some (.ok (.bl b), μ') => some (.ok (.bl b), μ')
      | _ => none)
    | false => none)
  | _, _ => none
end
end EG
namespace EG
open PySem PySem.Spec PyProof.Rows L2
/-! calls with keywords: of a def, of a method, of a static method, of a classmethod -/
section
variable {X : Cx} {CX : CXT} {k n : Nat} {f C : Addr} {fd : FuncData} {ps ks : List Str} {sp : Sp} {E : L2.St → XK} {x m : Str} {p apos pos : Pos} {o e : Expr} {es : List Expr} {kws : List Keyword} {ta : TE} {t tk : TA} {g : List Value → List Value → List Value} {gV : List V → List V → List V}
/-- C.m is a static method -/
structure SMet (K : PySem.W.Frag) (C : Addr) (mc : Value) (m : Str) (p g : Addr) : Prop where
  rd : ClX.CRead K C mc
  at_ : PySem.W.findCls K (.ref C) mc m = some (.get (.builtin "staticmethod.__get__") (.ref p) .none (.ref C))
  rc : ∃ rest, PySem.W.recIn K p "staticmethod" = some (.ref g :: rest)
  kp : PySem.W.keepIn K (.ref g) = true
end
end EG
namespace EG
open PySem L2
section
variable {W : Wd} {S S' S1 : Ws} {H H' H1 : Hp} {σ : St} {env : Env} {μ : Mu} {Wx : WX} {X : Cx} {k : Nat}
def fKD (n nk N : Nat) (F : Fn) (arr : List D → List D → List D) (fs : List D) (ga gk : Env → EM (List D)) : Env → EM D := fun env => bindE (ga env) fun ds => bindE (gk env) fun es => guardE (decide (ds.length = n ∧ es.length = nk ∧ (arr (fs ++ ds) es).length = N)) (F (arr (fs ++ ds) es))
def fMethK (c : Nat) (m : Str) (n nk N : Nat) (F : Fn) (arr : List D → List D → List D) (go : Env → EM D) (ga gk : Env → EM (List D)) : Env → EM D := fun env => bindE (go env) fun d μ => match isObj c m d μ with
  | true => fKD n nk N F arr [d] ga gk env μ
  | false => none
section
variable {c n N : Nat} {f : Addr} {fd : FuncData} {ps ks : List Str} {x m : Str} {p apos pos : Pos} {o e : Expr} {es : List Expr} {kws : List Keyword} {F : Fn} {go : Env → EM D} {ga gk : Env → EM (List D)} {arr : List D → List D → List D} {gB : List Value → List Value → List Value} {gV : List V → List V → List V}
end
end
end EG
namespace EG
open PySem PySem.Spec PyProof.Rows L2
/-! != by object.__ne__ over an own __eq__ -/
section
variable {prog : Program} {w : World} {A : Around} {E : Value → Shared → Prop} {s : Shared} {K : PySem.W.Frag} {x C L f : Addr} {h₀ : Heap} {m : Str → Option Value} {ox : Obj} {od : Option Obj} {name : Str} {b tb : Value}
end
section
variable {X : Cx} {k : Nat} {C f : Addr} {fd : FuncData} {ps : List Str} {sp : Sp}
end
end EG
namespace EG
open PySem L2
section
variable {W : Wd} {S S' S1 : Ws} {H H' H1 : Hp} {σ : St} {env : Env} {μ : Mu} {Wx : WX} {X : Cx} {k : Nat} {C f : Addr} {fd : FuncData} {ps : List Str} {sp : Sp}
structure NeFacts (K : PySem.W.Frag) (C f : Addr) : Prop where
  ne : PySem.W.findIn K (.ref C) "__ne__" = some (some (.builtin "object.__ne__"))
  mro : PySem.W.mroIn K C (.type "object") = some true
  eq : PySem.W.findIn K (.ref C) "__eq__" = some (some (.ref f))
  fn : PySem.W.isFn K (.ref f) = true
def fOwnNe (c : Nat) (F : Fn) (T : Isi) (fa fb : Env → EM D) : Env → EM D := fun env => bindE (fa env) fun d => bindE (fb env) fun e => fun μ => match objD d μ, tagD e μ with
  | some (c', _), some t => (match c' == c && rightB T c t with
    | true => (match F [d, e] μ with
      | some (.ok (.bl b), μ') => some (.ok (.bl (!b)), μ')
      | _ => none)
    | false => none)
  | _, _ => none
end
/-! len(o), repr(o), bool(o), o as a test -/
open PySem.Spec PyProof.Rows
inductive Own1 where | len | repr | bool
  deriving DecidableEq
def Own1.dunder : Own1 → Str
  | .len => "__len__" | .repr => "__repr__" | .bool => "__bool__"
/-- what such a def may give -/
def Own1.okD : Own1 → D → Bool
  | .len, .int i => decide (0 ≤ i ∧ i < 2 ^ 62)
  | .repr, .str _ => true
  | .bool, .bl _ => true
  | _, _ => false
end EG
namespace EG
open PySem PySem.Spec PyProof.Rows L2
section
variable {X : Cx} {k : Nat} {C f : Addr} {fd : FuncData} {ps : List Str} {sp : Sp}
end
end EG
namespace EG
open PySem L2
section
variable {W : Wd} {S S' S1 : Ws} {H H' H1 : Hp} {σ : St} {env : Env} {μ : Mu} {Wx : WX} {X : Cx} {k : Nat}
/-! len(o), repr(o) by own defs -/
def own1D (c : Nat) (o : Own1) (F : Fn) : List D → EM D
  | [d] => fun μ => match objD d μ with
    | some (c', _) => (match c' == c with
      | true => (match F [d] μ with
        | some (.ok v, μ') => (match o.okD v with
          | true => some (.ok v, μ')
          | false => none)
        | _ => none)
      | false => none)
    | none => none
  | _ => failE
def Own1.okV : Own1 → V → Prop
  | .len, v => ∃ i : Int, v = .int i ∧ 0 ≤ i ∧ i < 2 ^ 63
  | .repr, v => ∃ i : Str, v = .str i
  | .bool, v => ∃ b : Bool, v = .bl b
/-- o as a test, by its own __bool__ -/
def fOwnT (c : Nat) (F : Fn) (fa : Env → EM D) : Env → EM Bool := fT (fun env => bindE (fa env) fun d => own1D c .bool F [d])
/-! f-strings -/
def fmtD : D → EM Str
  | .str s => pureE s
  | .int i => guardE (decide (i.natAbs.log2 < 1920)) (pureE (toString i : String))
  | _ => failE
def fFn : Env → Str → EM Str := fun _ acc => pureE acc
def fFc (f : Env → EM D) (g : Env → Str → EM Str) : Env → Str → EM Str := fun env acc => bindE (f env) fun d => bindE (fmtD d) fun y => guardE (decide ((acc ++ y).length ≤ big)) (g env (acc ++ y))
def fFstr (g : Env → Str → EM Str) : Env → EM D := fun env => bindE (g env Str.empty) fun out => guardE (decide (out.length ≤ big)) (pureE (.str out))
structure PFs (W : Wd) (Wx : WX) (X : Cx) (es : List Expr) (g : Env → Str → EM Str) : Prop where
  ok : ∃ ts, PJ X es ts ∧ ∀ acc σ H Q, tG W Wx (fun env => g env acc) (fun out _ H' => Q out H') σ H → tJs ts acc σ H Q
theorem pf_nil : PFs W Wx X [] fFn := ⟨[], .nil, fun acc σ H Q ⟨S, μ, env, res, hS, hE, hf, hk⟩ => by
  cases hf
  exact hk.now hS⟩
theorem fmtD_some {d : D} {r : Out Str × Mu} (h : fmtD d μ = some r) : (∃ y, d = .str y ∧ r = (.ok y, μ)) ∨ ∃ i : Int, d = .int i ∧ i.natAbs.log2 < 1920 ∧ r = (.ok (toString i : String), μ) := by
  cases d with
  | str y => cases h; exact .inl ⟨y, rfl, rfl⟩
  | int i =>
    obtain ⟨h1, h2⟩ := guardE_some h
    cases h2
    exact .inr ⟨i, rfl, of_decide_eq_true h1, rfl⟩
  | _ => cases h
theorem pf_fmt {e : Expr} {es : List Expr} {pos : Pos} {f : Env → EM D} {g : Env → Str → EM Str} (he : PE X e (tEvB W Wx f)) (hr : PFs W Wx X es g) : PFs W Wx X (.FormattedValue e (-1) none pos :: es) (fFc f g) := by
  obtain ⟨ts, h1, h2⟩ := hr.ok
  refine ⟨_, .cons (pe_fmt he) h1, fun acc σ H Q ⟨S, μ, env, res, hS, hE, hf, hk⟩ => ?_⟩
  refine tG.bind hS hE hf hk fun d μ1 S1 H1 l1 g1 e1 hf1 hk1 v rv => ?_
  unfold bindE at hf1
  cases q : fmtD d μ1 with
  | none => rw [q] at hf1; cases hf1
  | some r =>
    rcases fmtD_some q with ⟨y, rfl, rfl⟩ | ⟨i, rfl, hi, rfl⟩
    · rw [q] at hf1
      obtain ⟨hl, hf1⟩ := guardE_some hf1
      obtain ⟨rfl, hy⟩ := rv.str
      exact .inl ⟨y, rfl, Nat.le_trans hy big_le, y, rfl, Nat.le_trans (of_decide_eq_true hl) big_le, h2 _ _ _ _ ⟨S1, μ1, env, res, g1, e1, hf1, hk1⟩⟩
    · rw [q] at hf1
      obtain ⟨hl, hf1⟩ := guardE_some hf1
      cases rv.int
      exact .inr ⟨i, rfl, hi, _, rfl, Nat.le_trans (of_decide_eq_true hl) big_le, h2 _ _ _ _ ⟨S1, μ1, env, res, g1, e1, hf1, hk1⟩⟩
theorem pf_con {s : Str} {j : Nat} {es : List Expr} {pos : Pos} {g : Env → Str → EM Str} (hr : PFs W Wx X es g) : PFs W Wx X (.Constant (.str s) j pos :: es) (fFc (fC (.str s)) g) := by
  obtain ⟨ts, h1, h2⟩ := hr.ok
  refine ⟨_, .cons (pe_str (x := s)) h1, fun acc σ H Q ⟨S, μ, env, res, hS, hE, hf, hk⟩ => ?_⟩
  have hf : guardE (decide ((acc ++ s).length ≤ big)) (g env (acc ++ s)) μ = some res := hf
  obtain ⟨hl, hf1⟩ := guardE_some hf
  exact ⟨s, rfl, Nat.le_trans (of_decide_eq_true hl) big_le, h2 _ _ _ _ ⟨S, μ, env, res, hS, hE, hf1, hk⟩⟩
end
end EG
namespace EG
open PySem L2 PySem.Spec PyProof.Rows
section
variable {X : Cx} {CX : CXT} {k : Nat} {f C : Addr} {fd : FuncData} {ps : List Str} {sp : Sp} {dvs : List V} {ds : List Value} {E : L2.St → XK} {x m : Str} {p pos apos : Pos} {e o fe : Expr} {es : List Expr} {tf : TE} {t : TA}
end
section
variable {W : Wd} {S S' S1 : Ws} {H H' H1 : Hp} {σ : L2.St} {env : Env} {μ : Mu} {Wx : WX} {X : Cx} {k n c : Nat} {f : Addr} {fd : FuncData} {ps : List Str} {fe e : Expr} {es : List Expr} {pos : Pos} {F : Fn} {go : Env → EM D} {ga : Env → EM (List D)} {dds : List D} {dvs : List V} {dus : List Value}
def fCallO (c : Nat) (n : Nat) (F : Fn) (dds : List D) (go : Env → EM D) (ga : Env → EM (List D)) : Env → EM D := fun env => bindE (go env) fun d μ => match isObj c "__call__" d μ with
  | true => bindE (ga env) (fun ds μ' => match isObj c "__call__" d μ' with
    | true => guardE (decide (ds.length + dds.length + 1 = n)) (F (d :: (ds ++ dds))) μ'
    | false => none) μ
  | false => none
end
end EG
namespace EG
open PySem L2
section
variable {W : Wd} {S S' S1 : Ws} {H H' H1 : Hp} {σ : L2.St} {env : Env} {μ : Mu} {Wx : WX} {X : Cx}
def rgI1 : D → EM (List D)
  | .int j => guardE (decide (-(2 ^ 62) ≤ j ∧ j < 2 ^ 62 ∧ j.toNat ≤ big)) (pureE (rangeL 0 j.toNat))
  | _ => failE
def rgI2 : D → D → EM (List D)
  | .int i, .int j => guardE (decide (-(2 ^ 62) ≤ i ∧ i < 2 ^ 62 ∧ -(2 ^ 62) ≤ j ∧ j < 2 ^ 62 ∧ (j - i).toNat ≤ big)) (pureE (rangeL i (j - i).toNat))
  | _, _ => failE
def fRg1 (f : Env → EM D) : Env → EM (List D) := fun env => bindE (f env) rgI1
def fRg2 (f g : Env → EM D) : Env → EM (List D) := fun env => bindE (f env) fun d => bindE (g env) fun e => rgI2 d e
end
end EG
namespace EG
open PySem L2
/-! [e for p in zip(a, b)] where a, b may be cells: at each turn they are as they were -/
def seqM (d : D) (μ : Mu) : Option (Bool × List D) := match d with
  | .lst xs => some (false, xs)
  | .tup xs => some (true, xs)
  | .cell n => match μ[n]? with
    | some (.lst xs) => some (false, xs)
    | _ => none
  | _ => none
open Classical in
noncomputable def keepM (d : D) (xs : List D) (μ : Mu) : Bool := match d with
  | .cell n => decide (μ[n]? = some (.lst xs))
  | _ => true
noncomputable def zipM : List D → EM ((Mu → Bool) × List D)
  | [d, e] => fun μ => match seqM d μ, seqM e μ with
    | some (_, xs), some (_, ys) => some (.ok (fun μ' => keepM d xs μ' && keepM e ys μ', zipL xs ys), μ)
    | _, _ => none
  | _ => failE
def compLM (chk : Mu → Bool) (p : Pat) (cond : Env → EM Bool) (elt : Env → EM D) (env : Env) : List D → EM (List D)
  | [] => fun μ => match chk μ with
    | true => some (.ok [], μ)
    | false => none
  | d :: r => fun μ => match chk μ with
    | true => (match bindP p d env with
      | none => none
      | some env1 => bindE (noX (cond env1)) (fun b => match b with
        | true => bindE (noX (elt env1)) fun x => bindE (compLM chk p cond elt env r) fun xs => pureE (x :: xs)
        | false => compLM chk p cond elt env r) μ)
    | false => none
noncomputable def fCompZ (vs : List Nat) (p : Pat) (g : Env → EM (List D)) (cond : Env → EM Bool) (elt : Env → EM D) : Env → EM (List D) := fun env => bindE (g env) fun ds => bindE (zipM ds) fun q => compLM q.1 p cond elt (wipeE env vs) q.2
section
variable {W : Wd} {S S' S1 : Ws} {H H' H1 : Hp} {σ : St} {env : Env} {μ : Mu} {Wx : WX} {α β : Type} {X : Cx} {Dn : Ends} {k : Own → Prop} {tg : Expr}
end
end EG
namespace EG
open PySem PySem.Spec PyProof.Rows L2
/-! a call's arguments in any mix: by place, starred, by name -/
section
variable {M : Model} {A : Around} {E : Value → Shared → Prop} {s : Shared}
end
/-- what a call's arguments give: the values by place, those by name -/
abbrev UK := List V → List V → Hp → Prop
structure PU (X : Cx) (es : List Expr) (kws : List Keyword) (ks : List Str) (t : L2.St → Hp → UK → Prop) : Prop where
  run : ∀ (f : Value) (pos : Pos) (pins : List (Addr × Obj)) (s : Shared) (σ : L2.St) (H : Hp) (Q : UK), Inv X pins σ H s → t σ H Q →
    wpAny (model X.prog X.w) X.A (evalArgs f true (backTo pos (starEach es X.env)) (backToKw pos (keywordEach kws X.env))) (fun a s' => ∃ vs zs ws H', Inv X pins σ H' s' ∧ Vals vs a.pos ∧ a.kw = ks.zip ws ∧ Vals zs ws ∧ zs.length = ks.length ∧ Q vs zs H') X.xe s
theorem PU.imp {X : Cx} {es : List Expr} {kws : List Keyword} {ks : List Str} {t t' : L2.St → Hp → UK → Prop} (h : PU X es kws ks t) (hi : ∀ σ H Q, t' σ H Q → t σ H Q) : PU X es kws ks t' := ⟨fun f pos pins s σ H Q I hw => h.run f pos pins s σ H Q I (hi _ _ _ hw)⟩
section
variable {X : Cx} {es : List Expr} {e : Expr} {p : Pos} {kws : List Keyword} {ks : List Str} {t tk : TA} {te : TE}
end
/-- a def at f, called by values by place and values of the keywords ks -/
abbrev USp := List V → List V → Hp → VK → XK → Prop
def FnU (P : Program) (w : World) (K : PySem.W.Frag) (mg : Str → Option Value) (base : Heap) (CX : CXT) (k : Nat) (f : Addr) (ks : List Str) (sp : USp) : Prop :=
  ∀ (A : Around) (outer : List PySem.Env) (s : Shared) (H : Hp) (us ws : List Value) (vs zs : List V) (Q : VK) (E : XK), Room k A → Env0 P w K mg base A outer s H → Vals vs us → Vals zs ws → zs.length = ks.length → sp vs zs H Q E →
    codeAny (model P w) A (.call (.ref f) ⟨us, ks.zip ws⟩) (CR CX outer P w H s Q E) s
theorem FnU.mono {P : Program} {w : World} {K : PySem.W.Frag} {mg : Str → Option Value} {base : Heap} {CX : CXT} {j k : Nat} {f : Addr} {ks : List Str} {sp : USp} (F : FnU P w K mg base CX j f ks sp) (h : j ≤ k) : FnU P w K mg base CX k f ks sp :=
  fun A outer s H us ws vs zs Q E hr => F A outer s H us ws vs zs Q E (hr.mono h)
section
variable {X : Cx} {CX : CXT} {k : Nat} {f C : Addr} {ks : List Str} {sp : USp} {E : L2.St → XK} {x m : Str} {p apos pos : Pos} {o e : Expr} {es : List Expr} {kws : List Keyword} {ta : TE} {tu : L2.St → Hp → UK → Prop}
end
end EG
namespace EG
open PySem L2
/-! the same over data -/
abbrev FU := List D → List D → EM D
def fU (nk : Nat) (ga gk : Env → EM (List D)) : Env → EM (List D × List D) := fun env => bindE (ga env) fun ds => bindE (gk env) fun es => guardE (decide (es.length = nk)) (pureE (ds, es))
def dataL : D → Option (List D)
  | .lst xs => some xs
  | .tup xs => some xs
  | _ => none
def fLone (nk : Nat) (f : Env → EM D) (gk : Env → EM (List D)) : Env → EM (List D × List D) := fun env => bindE (f env) fun d => bindE (optE (dataL d)) fun ds => bindE (gk env) fun es => guardE (decide (es.length = nk)) (pureE (ds, es))
def fStar (f : Env → EM D) (g : Env → EM (List D)) : Env → EM (List D) := fun env => bindE (f env) fun d => bindE (seqE d) fun xs => bindE (g env) fun ds => pureE (xs ++ ds)
def spU (W : Wd) (F : FU) : USp := fun vs zs H Q E => ∃ S μ ds es res, Sg W S H μ ∧ RepVs W S H vs ds ∧ RepVs W S H zs es ∧ F ds es μ = some res ∧ KF W S H Q E res
def fCU (F : FU) (fs : List D) (gu : Env → EM (List D × List D)) : Env → EM D := fun env => bindE (gu env) fun p => F (fs ++ p.1) p.2
def fMU (c : Nat) (m : Str) (F : FU) (go : Env → EM D) (gu : Env → EM (List D × List D)) : Env → EM D := fun env => bindE (go env) fun d μ => match isObj c m d μ with
  | true => bindE (gu env) (fun p => F (d :: p.1) p.2) μ
  | false => none
noncomputable def mkU (fz : Bool) (c : Nat) (F : FU) (ds es : List D) : EM D := fun μ => mkF fz (F (.cell μ.length :: ds) es (μ ++ [.obj c []])) μ
noncomputable def fMkU (fz : Bool) (c : Nat) (F : FU) (gu : Env → EM (List D × List D)) : Env → EM D := fun env => bindE (gu env) fun p => mkU fz c F p.1 p.2
def isCls (c : Nat) : D → Bool
  | .cls c' => c' == c
  | _ => false
noncomputable def fLmU (fz : Bool) (c : Nat) (F : FU) (go : Env → EM D) (gu : Env → EM (List D × List D)) : Env → EM D := fun env => bindE (go env) fun d => guardE (isCls c d) (bindE (gu env) fun p => mkU fz c F p.1 p.2)
section
variable {W : Wd} {S S' S1 : Ws} {H H' H1 : Hp} {σ : St} {env : Env} {μ : Mu} {Wx : WX} {X : Cx} {es : List Expr} {e : Expr} {p : Pos} {kws : List Keyword} {ks : List Str} {ga gk : Env → EM (List D)} {f : Env → EM D}
theorem ea_star (hK : X.K = W.K) (he : PE X e (tEv W Wx f)) (h2 : PA X es (tEvs W Wx ga)) : PA X (.Starred e p :: es) (tEvs W Wx (fStar f ga)) :=
  PA.imp (StX.pa_star he h2 rfl) fun σ H Q ⟨S, μ, env, res, hS, hE, hf, hk⟩ => by
    refine tG.bind hS hE hf hk fun d μ1 S1 H1 l1 g1 e1 hf1 hk1 v rv => ?_
    have hf1 : bindE (seqE d) (fun xs => bindE (ga env) fun ds => pureE (xs ++ ds)) μ1 = some res := hf1
    unfold bindE at hf1
    cases q : seqE d μ1 with
    | none => rw [q] at hf1; cases hf1
    | some o =>
      obtain ⟨xs, q1, rfl⟩ := seqE_some (xs := []) q
      rw [q] at hf1
      obtain ⟨a, vs, rfl, hs, hl, rvs⟩ := seqD_rep g1 (.inl rv) q1
      refine ⟨a, vs, rfl, by rw [hK]; exact hs.symm, tG.bind g1 e1 hf1 hk1 fun ds μ2 S2 H2 l2 g2 e2 hf2 hk2 ws rws => ?_⟩
      cases hf2
      exact hk2.now g2 _ ((rvs.later l2).append rws)
end
section
variable {W : Wd} {S S' S1 : Ws} {H H' H1 : Hp} {σ : St} {env : Env} {μ : Mu} {Wx : WX} {X : Cx} {k c : Nat} {f C : Addr} {ks : List Str} {F : FU} {x m : Str} {p apos pos : Pos} {o e : Expr} {es : List Expr} {kws : List Keyword} {gu : Env → EM (List D × List D)} {go : Env → EM D} {fz : Bool}
open Classical in
def uF (n N : Nat) (F : Fn) (arr : List D → List D → List D) : FU := fun ds es => guardE (decide (ds.length = n ∧ (arr ds es).length = N)) (F (arr ds es))
/-- a star parameter takes the rest -/
def uS (np m : Nat) (F : Fn) (arr : List D → List D → List D) : FU := fun ds es => guardE (decide (np ≤ ds.length ∧ (ds.drop np).length ≤ big ∧ (arr (ds.take np) es).length = m)) (F (arr (ds.take np) es ++ [.tup (ds.drop np)]))
end
end EG
namespace EG
open PySem L2
/-! for p in enumerate(a) where a may be a cell: at each turn it is as it was -/
noncomputable def enumM : List D → EM ((Mu → Bool) × List D)
  | [d] => fun μ => match seqM d μ with
    | some (_, xs) => some (.ok (fun μ' => keepM d xs μ', enumL 0 xs), μ)
    | none => none
  | _ => failE
def loopFM (chk : Mu → Bool) (p : Pat) (body : SM) : List D → SM
  | [], env, μ => match chk μ with
    | true => some (.nx env, μ)
    | false => none
  | d :: r, env, μ => match chk μ with
    | true => (match bindP p d env with
      | none => none
      | some env1 => match body env1 μ with
        | some (.nx env2, μ2) => loopFM chk p body r env2 μ2
        | some (.ct env2, μ2) => loopFM chk p body r env2 μ2
        | some (.br env2, μ2) => some (.nx env2, μ2)
        | r => r)
    | false => none
noncomputable def fForM (p : Pat) (g : Env → EM (List D)) (body : SM) : SM := liftE (fun env => bindE (g env) enumM) fun q => loopFM q.1 p body q.2
section
variable {W : Wd} {S S' S1 : Ws} {H H' H1 : Hp} {σ : St} {env : Env} {μ : Mu} {Wx : WX} {α β : Type} {X : Cx} {Dn : Ends} {k : Own → Prop} {tg : Expr}
end
def newC (c : Cell) : EM D := fun μ => some (.ok (.cell μ.length), μ ++ [c])
def fNewc (g : Env → EM (List D)) : Env → EM D := fun env => bindE (g env) fun xs => newC (.lst xs)
section
variable {W : Wd} {S S' S1 : Ws} {H H' H1 : Hp} {σ : St} {env : Env} {μ : Mu} {Wx : WX} {X : Cx}
theorem ev_newc {e : Expr} {g : Env → EM (List D)} (h : PE X e (tEvL W Wx g)) : PE X e (tEv W Wx (fNewc g)) :=
  PE.imp h fun σ H Q ⟨S, μ, env, res, hS, hE, hf, hk⟩ => by
    unfold fNewc bindE at hf
    cases e : g env μ with
    | none => rw [e] at hf; cases hf
    | some q =>
      obtain ⟨o, μ1⟩ := q
      rw [e] at hf
      cases o with
      | exc c fs => cases hf; exact ⟨S, μ, env, _, hS, hE, e, hk⟩
      | ok ds =>
        cases hf
        refine ⟨S, μ, env, _, hS, hE, e, fun S' H' l g' p vs hp ho hh hl r => ?_⟩
        obtain ⟨S2, l2, g2, r2⟩ := cell_new' (c := .lst ds) hS hp l g' ho ⟨vs, hh, hl, r⟩
        exact hk S2 H' l2 g2 _ r2
end
end EG
namespace EG
open PySem PySem.Spec PySem.Calls PyProof.Rows L2 PySem.W
/-! own exception classes over a built-in one, whose start says super().__init__(text), then sets its fields -/
structure ExB (B newId initId : String) (bm : List Value) : Prop where
  fb : ExcBaseFacts B newId initId bm
  kf : PySem.W.KxsFacts B initId
  sf : StoreFacts B bm "object.__setattr__" "object"
theorem exb_V : ExB "ValueError" "ValueError.__new__" "ValueError.__init__" [.type "ValueError", .type "Exception", .type "BaseException", .type "object"] := ⟨PySem.F.excBase_ValueError, PySem.W.kxs_ValueError, PySem.F.store_ValueError⟩
theorem exb_L : ExB "LookupError" "LookupError.__new__" "LookupError.__init__" [.type "LookupError", .type "Exception", .type "BaseException", .type "object"] := ⟨PySem.F.excBase_LookupError, PySem.W.kxs_LookupError, PySem.F.store_LookupError⟩
theorem exb_I : ExB "IndexError" "IndexError.__new__" "IndexError.__init__" [.type "IndexError", .type "LookupError", .type "Exception", .type "BaseException", .type "object"] := ⟨PySem.F.excBase_IndexError, PySem.W.kxs_IndexError, PySem.F.store_IndexError⟩
section
variable {prog : Program} {w : World} {A : Around} {E : Value → Shared → Prop} {R : Result → Shared → Prop} {hp : Heap} {g : Array GenState} {d : Drawn} {t : Nat} {os : OsState} {K : PySem.W.Frag} {B newId initId : String} {bm : List Value} {x C dx : Addr} {fv : Array Value} {cd : ClassData} {name : Str} {v : Value} {Q : Unit → Shared → Prop}
/-- the first field -/
theorem exc_set1 (SF : StoreFacts B bm "object.__setattr__" "object") (X : K.In hp) (hx : hp.get? x = some { cls := .ref C, data := .fields fv }) (ho : PySem.W.excOver K C bm = true) (hcd : PySem.W.clsIn K C = some cd) (hh : cd.hasDict = true)
    (sa : PySem.W.findIn K (.ref C) "__setattr__" = some (some (.builtin "object.__setattr__"))) (ht : PySem.W.takerIn K C name = some none)
    (hq : ∀ h' tk' dx, (∀ b o, b ≠ x → hp.get? b = some o → h'.get? b = some o) → hp.objs.size ≤ dx → h'.get? x = some { cls := .ref C, dict := some dx, data := .fields fv } → h'.Ns1 dx (fun y => if y = name then some v else none) → Q () ⟨h', g, d, tk', os⟩) :
    wpAny (model prog w) A (setAttr (.ref x) name v) Q E ⟨hp, g, d, t, os⟩ := by
  have I : PySem.W.InstAt hp x { cls := .ref C, data := .fields fv } C none := ⟨hx, rfl, rfl, trivial⟩
  have hxs : x ≠ hp.objs.size := Nat.ne_of_lt (Heap.lt_size hx)
  refine PySem.W.set_plain X I sa (PySem.W.osa_openX SF X I ho ht fun b => ?_)
  have hcls : PySem.W.Looks (model prog w) hp (classData C) cd := PySem.W.looks_clsIn X hcd
  show wpAny _ _ (Builtin.ObjectAttr.storeInOwnDict (.ref x) (.ref C) (.str name t) name v b) _ _ _
  obtain ⟨nm, bs, mro, ns, qn, hd, sn, sb, ab, col, del⟩ := cd
  dsimp only at hh
  subst hh
  unfold Builtin.ObjectAttr.storeInOwnDict Builtin.ObjectAttr.ownDictForStores
  repeat (first | with_reducible refine HandSPX.store_in_new ?_ ?_ | with_reducible refine wpAny_loadPart_at hx ?_ | with_reducible refine hcls.at ?_ | wp_step)
  · exact ⟨_, #[], _, (Heap.get?_update_ne _ _ _ _ hxs.symm).trans (Heap.get?_push_at rfl rfl), rfl, fun e he => absurd he (by simp), fun _ => rfl⟩
  · intro h' tk' hn' hs
    have hx1 : (hp.push { cls := .type "dict", data := .dict #[] }).get? x = some { cls := .ref C, data := .fields fv } := Heap.get?_push_of_some _ hx
    refine hq h' tk' hp.objs.size (fun b o hb e => ?_) (Nat.le_refl _) ?_ hn'
    · have nb : b ≠ hp.objs.size := Nat.ne_of_lt (Heap.lt_size e)
      rw [hs.2 b nb, Heap.get?_update_ne _ _ _ _ hb]
      exact Heap.get?_push_of_some _ e
    · rw [hs.2 x hxs]
      exact Heap.get?_update_self _ hx1 rfl
/-- a further one -/
theorem exc_set2 {m0 : Str → Option Value} {nl : List Str} (SF : StoreFacts B bm "object.__setattr__" "object") (X : K.In hp) (hx : hp.get? x = some { cls := .ref C, dict := some dx, data := .fields fv }) (hns : hp.Ns1 dx m0) (hw : Within m0 nl) (hz : nl.length ≤ 1000) (ho : PySem.W.excOver K C bm = true) (hcd : PySem.W.clsIn K C = some cd) (hh : cd.hasDict = true)
    (sa : PySem.W.findIn K (.ref C) "__setattr__" = some (some (.builtin "object.__setattr__"))) (ht : PySem.W.takerIn K C name = some none)
    (hq : ∀ h' tk', (∀ b o, b ≠ dx → hp.get? b = some o → h'.get? b = some o) → h'.Ns1 dx (fun y => if y = name then some v else m0 y) → Q () ⟨h', g, d, tk', os⟩) :
    wpAny (model prog w) A (setAttr (.ref x) name v) Q E ⟨hp, g, d, t, os⟩ := by
  obtain ⟨oD, _, _, hoD, _, _⟩ := hns.count hw
  have I : PySem.W.InstAt hp x { cls := .ref C, dict := some dx, data := .fields fv } C (some oD) := ⟨hx, rfl, rfl, hoD⟩
  refine PySem.W.set_plain X I sa (PySem.W.osa_openX SF X I ho ht fun b => ?_)
  have hcls : PySem.W.Looks (model prog w) hp (classData C) cd := PySem.W.looks_clsIn X hcd
  show wpAny _ _ (Builtin.ObjectAttr.storeInOwnDict (.ref x) (.ref C) (.str name t) name v b) _ _ _
  obtain ⟨nm, bs, mro, ns, qn, hd, sn, sb, ab, col, del⟩ := cd
  dsimp only at hh
  subst hh
  unfold Builtin.ObjectAttr.storeInOwnDict Builtin.ObjectAttr.ownDictForStores
  repeat (first | with_reducible refine PySem.OEX.store_in_old hns hw hz ?_ | with_reducible refine wpAny_loadPart_at hx ?_ | with_reducible refine hcls.at ?_ | wp_step)
  intro h' tk' hn' hs
  exact hq h' tk' (fun b o hb e => (hs.2 b hb).trans e) hn'
/-- super().__init__(text): the args are laid anew -/
theorem exc_base {u t0 : Addr} {rest : List Value} {Q : Value → Shared → Prop} {nm q : Str} {N : Addr} {bs bmC : List Value} {hdct : Bool} {sn : List Str} {sub : List Value} {ab : Bool} {col : Option Bool} {dd : Option Addr} {k0 k1 k2 k3 k5 : Option Value}
    (FB : ExcBaseFacts B newId initId bm) (hC : hp.get? C = some (excClassObj nm q C N bs bmC hdct sn sub ab col dd k0 k1 k2 k3 k5 newId)) (he : hp.get? x = some (PySem.HandSPX.excO C t0)) (hu : hp.get? u = some (PySem.W.kxs_mw initId x)) (hrest : rest.length ≤ sizeLine)
    (hq : ∀ h' t1, (∀ b o, b ≠ x → hp.get? b = some o → h'.get? b = some o) → h'.get? x = some (PySem.HandSPX.excO C t1) → Q .none ⟨h', g, d, t, os⟩) :
    wpAny (model prog w) A (call (.ref u) rest) Q E ⟨hp, g, d, t, os⟩ := by
  refine wpAny_call (codeAny_of_tree ?_)
  show wpAny _ A.in1 (callAny (.ref u) ⟨rest, []⟩) _ _ _
  simp only [callAny]
  refine wpAny_bind (wpAny_load hu ?_)
  simp only [PySem.W.kxs_mw, show (Value.type "method-wrapper" == Value.type "method" || Value.type "method-wrapper" == Value.type "builtin_function_or_method" || Value.type "method-wrapper" == Value.type "method-wrapper") = true by decide, if_true]
  refine PySem.W.KFB.if_so (by decide) ?_
  refine wpAny_bind (PySem.W.check_bound_init FB.toExcCallFacts hC he rfl ?_)
  refine wpAny_bind (wpAny_pure (wpAny_pure ?_))
  refine ⟨plainId_quiet FB.init.plain _, codeAny_builtin FB.initEntry ?_⟩
  exact PySem.W.exc_init_tree (cls := .ref C) (t0 := t0) (dv := none) (c2 := .none) (c3 := .none) (b4 := .bool false) he hrest fun h' k e' _ => hq h' _ k e'
end
end EG
namespace EG
open PySem PySem.Spec PySem.Calls PyProof.Rows L2 PySem.W
section
variable {P : Program} {w : World} {A : Around} {E : Value → Shared → Prop} {h : Heap} {g : Array GenState} {d : Drawn} {t : Nat} {os : OsState} {K : PySem.W.Frag} {B newId initId : String} {bm : List Value} {x C : Addr} {mg mb m : Str → Option Value}
/-- the statement super().__init__(text) in a start whose class cell holds C itself -/
theorem ex_super {qual txt self : Str} {scope : Scope} {L fI cda cc t0 : Addr} {body : List Stmt} {j : Nat} {p0 p1 p2 p3 p4 p5 : Pos} {fd : FuncData} {oc ccl cl : Value} {od cdd cld : Option Addr} {osl ccs csl : Array (Option Value)} {vs : Array Value} {ar : Arg} {file : Str} {tf : Tok} {Q : Flow → Shared → Prop}
    (XB : ExB B newId initId bm) (X : K.In h) (G : h.Ns mainGlobals mg) (Bb : h.Ns builtinsNs mb) (mgs : mg "super" = none) (mbs : mb "super" = some (.type "super")) (N : h.Ns L m) (hm : m self = some (.ref x)) (hx : h.get? x = some (PySem.HandSPX.excO C t0))
    (q : PySem.W.excInitIn K C bm newId = true) (hf : K.lookup fI = some ⟨oc, od, .func fd, osl⟩) (har : (fd.params.posonlyargs ++ fd.params.args).head? = some ar) (ha : ar.arg = self)
    (hcode : K.lookup cda = some ⟨ccl, cdd, .fields vs, ccs⟩) (hvs : vs[2]? = some (.str file tf)) (hfile : ((P.main.file : Str) == file) = true) (hcell : K.lookup cc = some ⟨cl, cld, .cell (some (.ref C)), csl⟩)
    (hmr : PySem.W.mroIn K C (.ref C) = some true) (hsup : PySem.W.ks_superIn K C C "__init__" = some (some (.builtin initId))) (hB : PySem.W.subIn K (.ref C) (.type B) = some true) (hop : PySem.W.nsIn K cStatics "thirdparty.any" = some none)
    (htop : (P.main.scope.names.lookup ("super" : Str)).isSome = false) (hl : (p2.endLine == p4.line) = true) (k1 : scope.names.lookup ("super" : Str) = some .globalImplicit) (k2 : scope.names.lookup ("__class__" : Str) = some .free) (k3 : scope.names.lookup self = some .local) (k4 : scope.kind = .function)
    (hq : ∀ h' t1 tk', (∀ b o, b ≠ x → h.get? b = some o → h'.get? b = some o) → h'.get? x = some (PySem.HandSPX.excO C t1) → Q .next ⟨h', g, d, tk', os⟩) :
    _root_.PySem.wpAt (model P w) A (.func body (envX qual scope L fI (.ref cda) [("__class__", cc)])) (exec (.Expr (.Call (.Attribute (.Call (.Name "super" p0) [] [] p1) "__init__" p2) [.Constant (.str txt) j p3] [] p4) p5) (envX qual scope L fI (.ref cda) [("__class__", cc)])) Q E ⟨h, g, d, t, os⟩ := by
  obtain ⟨nm, N', qn, bs, bmC, hdct, sn, sub, ab, col, dd, k0, k1', k2', k3', k5, hC, hT⟩ := PySem.W.excInit_of X q
  have hint : interactive (envX qual scope L fI (.ref cda) [("__class__", cc)]) = false := by
    unfold interactive
    first
      | (rw [show (envX qual scope L fI (.ref cda) [("__class__", cc)]).scope = scope from rfl, k4]; rfl)
      | (simp [k4, Env.blockKind, ScopeKind.isAnnotationScope])
  have he : eval (.Call (.Attribute (.Call (.Name "super" p0) [] [] p1) "__init__" p2) [.Constant (.str txt) j p3] [] p4) (envX qual scope L fI (.ref cda) [("__class__", cc)]) = (do
      let ov ← attributeBase (.Call (.Name "super" p0) [] [] p1) "__init__" (envX qual scope L fI (.ref cda) [("__class__", cc)]) (eval (.Call (.Name "super" p0) [] [] p1) (envX qual scope L fI (.ref cda) [("__class__", cc)]))
      standAt p2.atName
      let (f, first) ← holding [ov] (getMethod ov "__init__" (plainOf (.Call (.Name "super" p0) [] [] p1) (envX qual scope L fI (.ref cda) [("__class__", cc)])))
      callWith p4 f first (backTo p4 (starEach [.Constant (.str txt) j p3] (envX qual scope L fI (.ref cda) [("__class__", cc)]))) []) := by
    have e : ∀ ov, methodCall (.Call (.Name "super" p0) [] [] p1) "__init__" p2 p4 (envX qual scope L fI (.ref cda) [("__class__", cc)]) ov 1 (backTo p4 (starEach [.Constant (.str txt) j p3] (envX qual scope L fI (.ref cda) [("__class__", cc)]))) [] = (do
      let (f, first) ← holding [ov] (getMethod ov "__init__" (plainOf (.Call (.Name "super" p0) [] [] p1) (envX qual scope L fI (.ref cda) [("__class__", cc)])))
      callWith p4 f first (backTo p4 (starEach [.Constant (.str txt) j p3] (envX qual scope L fI (.ref cda) [("__class__", cc)]))) []) := fun ov => mcall_line rfl hl
    show (do
      let ov ← attributeBase (.Call (.Name "super" p0) [] [] p1) "__init__" (envX qual scope L fI (.ref cda) [("__class__", cc)]) (eval (.Call (.Name "super" p0) [] [] p1) (envX qual scope L fI (.ref cda) [("__class__", cc)]))
      standAt p2.atName
      methodCall (.Call (.Name "super" p0) [] [] p1) "__init__" p2 p4 (envX qual scope L fI (.ref cda) [("__class__", cc)]) ov 1 (backTo p4 (starEach [.Constant (.str txt) j p3] (envX qual scope L fI (.ref cda) [("__class__", cc)]))) []) = _
    simp only [e]
  refine PySem.ks_wpAt_Expr_any (PySem.ks_wpAt_MethodCall ?_ he) hint rfl
  refine PySem.ks_wpAt_super_base (env := envX qual scope L fI (.ref cda) [("__class__", cc)]) k1 k2 rfl rfl (X _ _ hf) rfl har rfl (X _ _ hcode) rfl hvs hfile htop ?_
  refine PySem.W.ks_loadName_global k4 k1 (Calls.loadGlobal_builtin (env := envX qual scope L fI (.ref cda) [("__class__", cc)]) G mgs Bb mbs ⟨rfl, ?_⟩)
  refine wpAny_loadName_free k4 k2 rfl ⟨_, X _ _ hcell, rfl⟩ ?_
  rw [ha]
  refine wpAny_loadName_local k4 k3 N hm ?_
  refine PySem.ks_wpAny_isType_cls hC rfl ⟨rfl, ?_⟩
  refine PySem.ks_wpAny_call_super hC rfl hx rfl (fun c e => nomatch e) (PySem.W.looks_mroIn X hmr) (fun h1 e1 kp1 => ?_)
  have X1 : K.In h1 := X.keeps kp1
  have hx1 := kp1 _ _ hx
  have J1 : PySem.W.InstAt h1 x (PySem.HandSPX.excO C t0) C none := ⟨hx1, rfl, rfl, trivial⟩
  have hI : PySem.W.Looks (model P w) h1 (isInstance (.ref x) (.type B)) true := J1.type.andThen (PySem.W.looks_subIn X1 hB)
  cases hc : PySem.W.clsIn K C with
  | none => unfold PySem.W.ks_superIn at hsup; rw [hc] at hsup; cases hsup
  | some cd =>
    unfold PySem.W.ks_superIn at hsup
    rw [hc] at hsup
    refine PySem.W.kxs_getMethod XB.kf e1 (PySem.W.looks_opaque X1 hop) (l₀ := cd.mro) ?_ rfl X1 hsup hI (PySem.W.ks_ne X1 J1 hc) rfl ?_
    · exact fun A Q E s k q => wpAny_bind ((PySem.W.looks_clsIn X1 hc) A _ E s k (wpAny_pure q))
    · have kp2 : ∀ b o, h1.get? b = some o → (h1.push (PySem.W.kxs_mw initId x)).get? b = some o := fun b o e => Heap.get?_push_of_some _ e
      have hu : (h1.push (PySem.W.kxs_mw initId x)).get? h1.objs.size = some (PySem.W.kxs_mw initId x) := Heap.get?_push_at rfl rfl
      refine PySem.W.kxs_callWith (i := initId) (x := x) rfl (Calls.evalArgs_plain (Calls.spliced_cons (Calls.Constant_str (k := j) (pos := p3) (Calls.spliced_nil ⟨hu, ?_⟩))))
      refine exc_base XB.fb (kp2 _ _ (kp1 _ _ hC)) (kp2 _ _ hx1) hu (by show 1 ≤ sizeLine; rw [sizeLine_eq]; omega) fun h3 t1 kk e3 => ?_
      exact hq h3 t1 _ (fun b o hb e => kk b o hb (kp2 b o (kp1 b o e))) e3
end
end EG
namespace EG
open PySem PySem.Spec PySem.Calls PyProof.Rows L2 PySem.W
/-- the text of such a start: self, the code, the field and the parameter that it takes -/
structure ExFn where
  qual : Str
  self : Str
  code : Str
  fld : Option (Str × Str)
  params : Arguments
  body : List Stmt
  scope : Scope
def ExFn.ps (D : ExFn) : List Str := D.self :: (match D.fld with
  | none => []
  | some p => [p.2])
def ExFn.Shape (D : ExFn) : Prop := ∃ (txt : Str) (p0 p1 p2 p3 p4 p5 q0 q1 q2 q3 : Pos) (j1 j2 : Nat) (tl : List Stmt), (p2.endLine == p4.line) = true ∧
  D.body = .Expr (.Call (.Attribute (.Call (.Name "super" p0) [] [] p1) "__init__" p2) [.Constant (.str txt) j1 p3] [] p4) p5 :: .Assign [.Attribute (.Name D.self q0) "code" q1] (.Constant (.str D.code) j2 q2) q3 :: tl ∧
  (match D.fld with
    | none => tl = []
    | some p => ∃ r0 r1 r2 r3 : Pos, tl = [.Assign [.Attribute (.Name D.self r0) p.1 r1] (.Name p.2 r2) r3])
/-- what the exception's dict holds -/
def exMap (code : Str) (fld : Option (Str × Str)) (tk : Tok) (us : List Value) : Str → Option Value := match fld, us with
  | some p, [u] => fun y => if y = p.1 then some u else if y = "code" then some (.str code tk) else none
  | _, _ => fun y => if y = "code" then some (.str code tk) else none
structure ExI (K : PySem.W.Frag) (P : Program) (B newId initId : String) (bm : List Value) (C fI : Addr) (D : ExFn) : Prop where
  init : PySem.W.excInitIn K C bm newId = true
  over : PySem.W.excOver K C bm = true
  hd : PySem.W.hasDictIn K C = true
  sa : PySem.W.findIn K (.ref C) "__setattr__" = some (some (.builtin "object.__setattr__"))
  tc : PySem.W.takerIn K C "code" = some none
  tf : ∀ p, D.fld = some p → PySem.W.takerIn K C p.1 = some none
  iC : PySem.W.findIn K (.ref C) "__init__" = some (some (.ref fI))
  tI : PySem.W.typeIn K (.ref fI) = some (.type "function")
  sup : PySem.W.ks_superIn K C C "__init__" = some (some (.builtin initId))
  sB : PySem.W.subIn K (.ref C) (.type B) = some true
  mr : PySem.W.mroIn K C (.ref C) = some true
  op : PySem.W.nsIn K cStatics "thirdparty.any" = some none
  kp : PySem.W.keepIn K (.ref C) = true
  exC : PySem.W.subIn K (.ref C) (.type "BaseException") = some true
  tyC : PySem.W.typeIn K (.ref C) = some (.type "type")
  fn : ∃ (oc : Value) (od : Option Addr) (osl : Array (Option Value)) (name : Str) (kV doc pm : Value) (an : Option Addr) (cda : Addr) (ct : Value) (cc : Addr) (cl : Value) (cld : Option Addr) (csl : Array (Option Value)) (ccl : Value) (cdd : Option Addr) (ccs : Array (Option Value)) (vs : Array Value) (file : Str) (tf : Tok),
    K.lookup fI = some ⟨oc, od, .func (fnX name D.qual D.params D.body D.scope [("__class__", cc)] .none kV doc pm an (.ref cda) ct), osl⟩ ∧ PySem.W.codeIn K (.ref cda) D.qual = true ∧ K.lookup cda = some ⟨ccl, cdd, .fields vs, ccs⟩ ∧ vs[2]? = some (.str file tf) ∧ ((P.main.file : Str) == file) = true ∧ K.lookup cc = some ⟨cl, cld, .cell (some (.ref C)), csl⟩
  bind : ∀ (name : Str) (kV doc pm : Value) (an : Option Addr) (cdv ct : Value) (cl : List (Str × Addr)) (us : List Value), us.length = D.ps.length → bindArgs (fnX name D.qual D.params D.body D.scope cl .none kV doc pm an cdv ct) ⟨us, []⟩ = pure (D.ps.zip us)
  bindK : ∀ (p : Str × Str), D.fld = some p → ∀ (x : Addr) (u : Value) (name : Str) (kV doc pm : Value) (an : Option Addr) (cdv ct : Value) (cl : List (Str × Addr)), bindArgs (fnX name D.qual D.params D.body D.scope cl .none kV doc pm an cdv ct) ⟨[.ref x], [(p.2, u)]⟩ = pure (D.ps.zip [Value.ref x, u])
  ar : ∃ ar, (D.params.posonlyargs ++ D.params.args).head? = some ar ∧ ar.arg = D.self
  shape : D.Shape
  nd : D.ps.Nodup
  k0 : ∀ y ∈ D.scope.names, y.2 ≠ .cell
  k1 : D.scope.names.lookup ("super" : Str) = some .globalImplicit
  k2 : D.scope.names.lookup ("__class__" : Str) = some .free
  k3 : ∀ x ∈ D.ps, D.scope.names.lookup x = some .local
  k4 : D.scope.kind = .function
  k5 : D.scope.isCoroutine = false
  k6 : D.scope.isGenerator = false
  k7 : ∀ x ∈ D.ps, (x == ("__debug__" : Str)) = false
  top : (P.main.scope.names.lookup ("super" : Str)).isSome = false
section
variable {P : Program} {w : World} {A : Around} {R : Result → Shared → Prop} {s : Shared} {K : PySem.W.Frag} {B newId initId : String} {bm : List Value} {x C fI t0 : Addr} {D : ExFn} {mg mb : Str → Option Value}
theorem zip_look0 {a : Str} {r : List Str} {u : Value} {us : List Value} (hn : (a :: r).Nodup) : ((a :: r).zip (u :: us)).reverse.lookup a = some u := by
  have h1 : ∀ (l : List (Str × Value)), (∀ p ∈ l, p.1 ≠ a) → (l ++ [(a, u)]).lookup a = some u := by
    intro l
    induction l with
    | nil => intro _; simp
    | cons p l ih =>
      intro h
      have : (a == p.1) = false := beq_eq_false_iff_ne.mpr fun z => h p List.mem_cons_self z.symm
      rw [List.cons_append, List.lookup_cons, this]
      exact ih fun q hq => h q (List.mem_cons_of_mem _ hq)
  rw [List.zip_cons_cons, List.reverse_cons]
  refine h1 _ fun p hp => ?_
  have := List.of_mem_zip (List.mem_reverse.mp hp)
  exact fun z => (List.nodup_cons.mp hn).1 (z ▸ this.1)
theorem init_runA (XB : ExB B newId initId bm) (F : ExI K P B newId initId bm C fI D) (X : K.In s.heap) (G : s.heap.Ns mainGlobals mg) (Bb : s.heap.Ns builtinsNs mb) (mgs : mg "super" = none) (mbs : mb "super" = some (.type "super")) (lim : s.heap.NoLimit) (hroom : A.depth < recursionLimit)
    (hx : s.heap.get? x = some (PySem.HandSPX.excO C t0)) (hxK : K.lookup x = none) {us : List Value} {as : Args} (hbd : ∀ (name : Str) (kV doc pm : Value) (an : Option Addr) (cdv ct : Value) (cl : List (Str × Addr)), bindArgs (fnX name D.qual D.params D.body D.scope cl .none kV doc pm an cdv ct) as = pure (D.ps.zip (Value.ref x :: us))) (hl : (Value.ref x :: us).length = D.ps.length)
    (hq : ∀ h' tk' dx t1 tk, (∀ b o, b ≠ x → s.heap.get? b = some o → h'.get? b = some o) → s.heap.objs.size ≤ dx → h'.get? x = some { cls := .ref C, dict := some dx, data := .fields #[.ref t1, .none, .none, .none, .bool false, .none] } →
      h'.Ns1 dx (exMap D.code D.fld tk us) → R (.ok (.ret .none)) { s with heap := h', toks := tk' }) :
    codeAny (model P w) A (.call (.ref fI) as) R s := by
  obtain ⟨oc, od, osl, name, kV, doc, pm, an, cda, ct, cc, cl, cld, csl, ccl, cdd, ccs, vs, file, tf, f1, f2, f3, f4, f5, f6⟩ := F.fn
  obtain ⟨ar, a1, a2⟩ := F.ar
  obtain ⟨txt, p0, p1, p2, p3, p4, p5, q0, q1, q2, q3, j1, j2, tl, hpl, hb, ht⟩ := F.shape
  have hself : D.self ∈ D.ps := List.mem_cons_self ..
  refine PySem.ks_codeAny_call_defAt (body := D.body) hroom (X _ _ f1) rfl lim (PySem.W.codeRec_of X f2) rfl (BindsTo.of_eq (hbd _ _ _ _ _ _ _ _)) F.k0 (fun y hy => F.k3 _ (List.of_mem_zip hy).1) (fun h0 hns hk => ?_) F.k5 F.k6 F.k4
  have hxL : x < s.heap.objs.size := Heap.lt_size hx
  have nLx : s.heap.objs.size ≠ x := Nat.ne_of_gt hxL
  have hm : (D.ps.zip (Value.ref x :: us)).reverse.lookup D.self = some (.ref x) := zip_look0 F.nd
  rw [hb]
  refine PySem.ks_wpAt_execs_cons (ex_super (fd := fnX name D.qual D.params D.body D.scope [("__class__", cc)] .none kV doc pm an (.ref cda) ct) XB (X.keeps hk) (G.keeps hk) (Bb.keeps hk) mgs mbs hns hm (hk _ _ hx) F.init f1 a1 a2 f3 f4 f5 f6 F.mr F.sup F.sB F.op F.top hpl F.k1 F.k2 (F.k3 _ hself) F.k4 fun h1 t1 tk1 k1 e1 => ?_)
  refine _root_.PySem.wpAt_of_wpAny ?_
  have K1 : ∀ b o, b ≠ x → s.heap.get? b = some o → h1.get? b = some o := fun b o hb e => k1 b o hb (hk b o e)
  have n1 : h1.Ns s.heap.objs.size _ := hns.at fun o e => k1 _ _ nLx e
  have X1 : K.In h1 := fun b o e => K1 b o (fun z => by rw [z, hxK] at e; cases e) (X b o e)
  obtain ⟨cd, hcd, hh⟩ := PySem.W.any_some F.hd
  have G1 : ∀ {h2 : Heap} {v : Value} {E : Value → Shared → Prop} {Q : Value → Shared → Prop} {tk : Nat} {y : Str} {pos : Pos}, h2.Ns s.heap.objs.size (fun y => (D.ps.zip (Value.ref x :: us)).reverse.lookup y) → y ∈ D.ps → (D.ps.zip (Value.ref x :: us)).reverse.lookup y = some v → Q v ⟨h2, s.gens, s.drawn, tk, s.os⟩ →
      wpAny (model P w) (A.deeper (callEnv (fnX name D.qual D.params D.body D.scope [("__class__", cc)] .none kV doc pm an (.ref cda) ct) s.heap.objs.size fI)) (eval (.Name y pos) (callEnv (fnX name D.qual D.params D.body D.scope [("__class__", cc)] .none kV doc pm an (.ref cda) ct) s.heap.objs.size fI)) Q E ⟨h2, s.gens, s.drawn, tk, s.os⟩ := fun hn hy hv hQ => wpAny_Name (wpAny_loadName_local F.k4 (F.k3 _ hy) hn hv hQ) (F.k7 _ hy)
  refine wpAny_execs_cons (plainObj_wpAny_Assign_Attribute (Calls.Constant_str (G1 n1 hself hm (exc_set1 XB.sf X1 e1 F.over hcd hh F.sa F.tc fun h2 tk2 dx k2 d2 e2 ns2 => ?_))) rfl)
  have d2' : s.heap.objs.size ≤ dx := Nat.le_trans (Nat.le_of_lt (by obtain ⟨o, _, _, e, _⟩ := n1; exact Heap.lt_size e)) d2
  have K2 : ∀ b o, b ≠ x → s.heap.get? b = some o → h2.get? b = some o := fun b o hb e => k2 b o hb (K1 b o hb e)
  have hw : Within (fun y => if y = "code" then some (Value.str D.code (tk1)) else none) ["code"] := Within.cons "code" _ Within.nil
  cases hf : D.fld with
  | none =>
    rw [hf] at ht
    subst ht
    refine wpAny_execs_nil ?_
    refine hq h2 _ dx t1 tk1 K2 d2' e2 ?_
    rw [hf]
    exact ns2
  | some p =>
    rw [hf] at ht
    obtain ⟨r0, r1, r2, r3, rfl⟩ := ht
    have hps : D.ps = [D.self, p.2] := by unfold ExFn.ps; rw [hf]
    have hp2 : p.2 ∈ D.ps := by rw [hps]; simp
    match us, hl with
    | [u], _ =>
      have n2 : h2.Ns s.heap.objs.size (fun y => (D.ps.zip [Value.ref x, u]).reverse.lookup y) := n1.at fun o e => k2 _ _ nLx e
      have hv : (D.ps.zip [Value.ref x, u]).reverse.lookup p.2 = some u := by rw [hps]; simp
      have X2 : K.In h2 := fun b o e => K2 b o (fun z => by rw [z, hxK] at e; cases e) (X b o e)
      refine wpAny_execs_cons (plainObj_wpAny_Assign_Attribute (G1 n2 hp2 hv (G1 n2 hself hm (exc_set2 XB.sf X2 e2 ns2 hw (by simp) F.over hcd hh F.sa (F.tf p hf) fun h3 tk3 k3 ns3 => ?_))) rfl)
      refine wpAny_execs_nil ?_
      have ndx : x ≠ dx := Nat.ne_of_lt (Nat.lt_of_lt_of_le hxL d2')
      refine hq h3 _ dx t1 tk1 (fun b o hb e => k3 b o (Nat.ne_of_lt (Nat.lt_of_lt_of_le (Heap.lt_size e) d2')) (K2 b o hb e)) d2' (k3 _ _ ndx e2) ?_
      rw [hf]
      exact ns3
    | [], h => rw [hps] at h; cases h
    | _ :: _ :: _, h => rw [hps] at h; cases h
theorem init_run (XB : ExB B newId initId bm) (F : ExI K P B newId initId bm C fI D) (X : K.In s.heap) (G : s.heap.Ns mainGlobals mg) (Bb : s.heap.Ns builtinsNs mb) (mgs : mg "super" = none) (mbs : mb "super" = some (.type "super")) (lim : s.heap.NoLimit) (hroom : A.depth < recursionLimit)
    (hx : s.heap.get? x = some (PySem.HandSPX.excO C t0)) (hxK : K.lookup x = none) {us : List Value} (hl : (Value.ref x :: us).length = D.ps.length)
    (hq : ∀ h' tk' dx t1 tk, (∀ b o, b ≠ x → s.heap.get? b = some o → h'.get? b = some o) → s.heap.objs.size ≤ dx → h'.get? x = some { cls := .ref C, dict := some dx, data := .fields #[.ref t1, .none, .none, .none, .bool false, .none] } →
      h'.Ns1 dx (exMap D.code D.fld tk us) → R (.ok (.ret .none)) { s with heap := h', toks := tk' }) :
    codeAny (model P w) A (.call (.ref fI) ⟨.ref x :: us, []⟩) R s := init_runA XB F X G Bb mgs mbs lim hroom hx hxK (fun _ _ _ _ _ _ _ _ => F.bind _ _ _ _ _ _ _ _ _ hl) hl hq
end
end EG
namespace EG
open PySem PySem.Spec PySem.Calls PyProof.Rows L2 PySem.W
def exFs (D : ExFn) (vs : List V) : List (Str × V) := match D.fld, vs with
  | some p, [v] => [(p.1, v), ("code", .str D.code)]
  | _, _ => [("code", .str D.code)]
theorem exFs_rel {D : ExFn} {vs : List V} {us : List Value} {tk : Tok} (r : Vals vs us) : ∀ f, RelO ((exFs D vs).lookup f) (exMap D.code D.fld tk us f) := by
  have one : ∀ f, RelO (List.lookup f [(("code" : Str), V.str D.code)]) (if f = "code" then some (Value.str D.code tk) else none) := fun f => by
    by_cases h : f = "code"
    · subst h; exact ⟨_, rfl⟩
    · have : (f == ("code" : Str)) = false := beq_eq_false_iff_ne.mpr h
      rw [if_neg h]; simp [List.lookup, this]; trivial
  intro f
  unfold exFs exMap
  cases D.fld with
  | none => cases r <;> exact one f
  | some p =>
    cases r with
    | nil => exact one f
    | cons r t =>
      cases t with
      | cons _ _ => exact one f
      | nil =>
        rw [List.lookup_cons]
        show RelO _ (if f = p.1 then _ else _)
        by_cases h : f = p.1
        · subst h; simp; exact r
        · have : (f == p.1) = false := beq_eq_false_iff_ne.mpr h
          rw [if_neg h, this]; exact one f
section
variable {X : Cx} {B newId initId : String} {bm : List Value} {C fI : Addr} {D : ExFn}
/-- C is called with values: a new exception, its dict tracked -/
theorem exI_call {pins : List (Addr × Obj)} {σ : L2.St} {H1 : Hp} {s1 : Shared} {us : List Value} {vs : List V} {QQ : Value → Shared → Prop} (XB : ExB B newId initId bm) (F : ExI X.K X.prog B newId initId bm C fI D) (mgs : X.mg "super" = none) (hr : L2H.RoomH 1 X.A) (I1 : Inv X pins σ H1 s1) (r1 : Vals vs us) (hl : vs.length + 1 = D.ps.length) (hz : vs.length ≤ 1000)
    (hq : ∀ (h' : Heap) (tk : Nat) (G : Heap) (dx e t1 : Addr), Inv X pins σ (upd H1 dx (.xd (exFs D vs))) { s1 with heap := G, toks := tk } → (∀ b o, G.get? b = some o → h'.get? b = some o) → G.get? e = none → h'.get? e = some { cls := .ref C, dict := some dx, data := .fields #[.ref t1, .none, .none, .none, .bool false, .none] } →
      upd H1 dx (.xd (exFs D vs)) e = none → H1 dx = none → dx ≠ e → (∀ b o, b ≠ e → h'.get? b = some o → G.get? b = some o) → QQ (.ref e) { s1 with heap := h', toks := tk }) :
    wpAny (model X.prog X.w) X.A (call (.ref C) us) QQ X.xe s1 := by
  obtain ⟨nm, N', qn, bs, bmC, hdct, sn, sub, ab, col, dd, k0, k1, k2, k3, k5, hC, hT⟩ := PySem.W.excInit_of I1.kIn F.init
  obtain ⟨mb, hmb, hbb⟩ := I1.mod.blt
  have kIn := I1.kIn
  have Gm := I1.mod.glob.keeps I1.bk
  have Bm := hmb.keeps I1.bk
  have lim := I1.nolimit
  have hus : us.length ≤ sizeLine := by rw [← Paired.length r1, sizeLine_eq]; omega
  obtain ⟨hp, g, dr, tk, os⟩ := s1
  have hsz : hp.objs.size ≤ hp.objs.size + 1 := Nat.le_succ _
  have kk : ∀ b o, hp.get? b = some o → ((hp.push (PySem.W.kdv_tup us)).push (PySem.HandSPX.excO C hp.objs.size)).get? b = some o := fun b o e => Heap.get?_push_of_some _ (Heap.get?_push_of_some _ e)
  have hget : ((hp.push (PySem.W.kdv_tup us)).push (PySem.HandSPX.excO C hp.objs.size)).get? (hp.objs.size + 1) = some (PySem.HandSPX.excO C hp.objs.size) := by heap_get
  have hnone : hp.get? (hp.objs.size + 1) = none := Heap.get?_none_of_le hsz
  refine wpAny_call (PySem.HandSPX.call_own XB.fb hT hC (PySem.W.looks_findIn kIn F.iC) (fun self => PySem.W.bind_fn kIn self F.tI) hus ?_)
  refine init_run XB F (kIn.keeps kk) (Gm.keeps kk) (Bm.keeps kk) mgs ((hbb _ (by decide)).trans (by decide +kernel)) (lim.keeps kk) (by have := hr.dp; rw [L2.make_depth]; omega) hget ?_ (by rw [List.length_cons, ← Paired.length r1]; exact hl) fun h' tk' dx t1 tk1 kx dge he ns => ?_
  · cases e : X.K.lookup (hp.objs.size + 1) with
    | none => rfl
    | some o => have := kIn _ _ e; rw [hnone] at this; cases this
  · have dne : dx ≠ hp.objs.size + 1 := fun z => by
      obtain ⟨o, es, ep, e1, e2, _⟩ := ns
      rw [z, he] at e1
      have e1 := Option.some.inj e1
      subst e1
      cases e2
    obtain ⟨G, g1, g2⟩ := restrict h' fun b => decide (b ≠ hp.objs.size + 1)
    have gk : ∀ b, b ≠ hp.objs.size + 1 → G.get? b = h'.get? b := fun b hb => g1 b (decide_eq_true hb)
    have ge : G.get? (hp.objs.size + 1) = none := g2 _ (by simp)
    have nlt : ∀ b o, hp.get? b = some o → b ≠ hp.objs.size + 1 := fun b o e => Nat.ne_of_lt (Nat.lt_succ_of_lt (Heap.lt_size e))
    have dn : hp.get? dx = none := Heap.get?_none_of_le (Nat.le_trans (by rw [Heap.size_push, Heap.size_push]; omega) dge)
    have hd1 : H1 dx = none := I1.hok.fresh (Nat.le_trans (by show hp.objs.size ≤ _; rw [Heap.size_push, Heap.size_push]; omega) dge)
    have hne : H1 (hp.objs.size + 1) = none := I1.hok.fresh hsz
    have J : Inv X pins σ (upd H1 dx (.xd (exFs D vs))) { (⟨hp, g, dr, tk, os⟩ : Shared) with heap := G, toks := tk' } :=
      I1.laidN (fun b u e => by rw [gk b (nlt b u e)]; exact kx b u (nlt b u e) (kk b u e)) dn hd1 ⟨_, ns.at fun o e => (gk dx dne).trans e, exFs_rel r1⟩
    refine ⟨rfl, hq h' tk' G dx (hp.objs.size + 1) t1 J (fun b o e => ?_) ge he (by rw [upd_ne (Ne.symm dne)]; exact hne) hd1 dne fun b o hb e => by rw [gk b hb]; exact e⟩
    by_cases hb : b = hp.objs.size + 1
    · rw [hb, ge] at e; cases e
    · rw [← gk b hb]; exact e
end
end EG
namespace EG
open PySem PySem.Spec PySem.Calls PyProof.Rows L2 PySem.W
section
variable {X : Cx} {B newId initId : String} {bm : List Value} {C fI : Addr} {D : ExFn} {x : Str} {p pos : Pos} {e : Expr} {es : List Expr} {ta : TA}
end
/-! raise C(..), by data -/
end EG
namespace EG
open PySem PySem.Spec PyProof.Rows L2
/-! try: body, except (A, B, C) as n: suite; what is caught is tracked in the suite -/
section
variable {X : Cx} {pins : List (Addr × Obj)} {σ : L2.St} {H : Hp} {s : Shared}
end
theorem xdO_ok {P : Program} {w : World} {H : Hp} {h : Heap} {a dd : Addr} {cls : Value} {oe : Obj} {vs : Array Value} (he : h.get? a = some oe) (h1 : oe.cls = cls) (h2 : oe.dict = some dd) (h3 : oe.data = .fields vs) : ObjOk P w H h a (XdO cls dd a) :=
  ⟨⟨oe, vs, he, h1, h2, h3⟩, ⟨oe, he⟩, fun _ _ ⟨o, v, q, r⟩ k => ⟨o, v, k o q, r⟩⟩
section
variable {X : Cx} {n : Str} {cs : List Value} {i : Nat} {body suite : List Stmt} {b₀ : Stmt} {te : Expr} {pos pos' : Pos} {tb : WX → TS} {ts : TS}
end
end EG
namespace EG
open PySem PySem.Spec PyProof.Rows L2
/-! defs that are called where an exception is handled, and raise nothing there -/
structure RoomQ (k : Nat) (A : Around) : Prop where
  dp : A.depth + 3 * k + 5 < recursionLimit
  un : A.units + 16 * k + 200 < cLine
theorem RoomQ.of {k : Nat} {A : Around} (r : Room k A) : RoomQ k A := ⟨r.dp, r.un⟩
theorem RoomQ.deeper {k : Nat} {A : Around} (r : RoomQ (k + 1) A) (env : PySem.Env) : RoomQ k (A.deeper env) :=
  ⟨by have := r.dp; show A.depth + 1 + 3 * k + 5 < _; omega, by have := r.un; show A.units + 3 + 16 * k + 200 < _; omega⟩
def FnQ (P : Program) (w : World) (K : PySem.W.Frag) (mg : Str → Option Value) (base : Heap) (k n : Nat) (f : Addr) (sp : Sp) : Prop :=
  ∀ (A : Around) (outer : List PySem.Env) (s : Shared) (H : Hp) (us : List Value) (vs : List V) (Q : VK), RoomQ k A → Env0 P w K mg base A outer s H → Vals vs us → vs.length = n → sp vs H Q (fun _ _ _ => False) →
    codeAny (model P w) A (.call (.ref f) ⟨us, []⟩) (CR L2.CX0 outer P w H s Q (fun _ _ _ => False)) s
section
variable {W : Wd} {S S' S1 : Ws} {H H' H1 : Hp} {σ : L2.St} {env : Env} {μ : Mu} {Wx : WX} {Y : Cx}
/-! e.f of an exception -/
/-- which fields of which classes are read by the dict -/
abbrev Xtab := List (Nat × Str)
def xcB (K : PySem.W.Frag) (C : Addr) : Bool := decide (PySem.W.findIn K (.ref C) "__class__" = some (some (.builtin "object.__class__"))) && (decide (PySem.W.specialIn K (.builtin "object.__class__") "__get__" = some (some (.builtin "getset_descriptor.__get__"))) && (decide (PySem.W.takesIn K (.builtin "object.__class__") = some true) && decide (PySem.W.mroIn K C (.type "object") = some true)))
theorem xcB_ok {K : PySem.W.Frag} {C : Addr} (x : XfC K C) (h : xcB K C = true) : ExcC K C := by
  unfold xcB at h
  simp only [Bool.and_eq_true, decide_eq_true_eq] at h
  obtain ⟨h1, h2, h3, h4⟩ := h
  exact ⟨x.ga, x.gg, x.exC, x.hdC, h1, h2, h3, h4⟩
def XtOk (W : Wd) (T : Xtab) : Prop := ∀ c f, (c, f) ∈ T → XfC W.K (W.ca c) ∧ PySem.W.findIn W.K (.ref (W.ca c)) f = some none ∧ L2.ExcC W.K (W.ca c)
def fXf (T : Xtab) (f : Str) (g : Env → EM D) : Env → EM D := fun env => bindE (g env) fun d => match d with
  | .err c fs => guardE (T.contains (c, f)) (optE (fs.lookup f))
  | _ => failE
theorem pe_xfT {e : Expr} {te : TE} {n : Str} {pos : Pos} (he : PE Y e te) (hb : attributeBase e n Y.env (eval e Y.env) = eval e Y.env) :
    PE Y (.Attribute e n pos) (fun σ H Q => te σ H fun x H1 => ∃ (a C dd : Addr) (fs : List (Str × V)) (v : V), x = .ref a ∧ H1 a = some (XdO (.ref C) dd a) ∧ XfC Y.K C ∧ PySem.W.findIn Y.K (.ref C) n = some none ∧ H1 dd = some (.xd fs) ∧ fs.lookup n = some v ∧ Q v H1) := by
  refine ⟨fun pins s σ H Q I h => ?_⟩
  refine attr_of hb (thn (he.run pins s σ H _ I h) fun u s1 hh => ?_)
  obtain ⟨x, H1, I1, rx, a, C, dd, fs, v, rfl, ha, T, hno, hd, l, q⟩ := hh
  obtain rfl : u = Value.ref a := rx
  have hz : ObjOk Y.prog Y.w H1 s1.heap a (XdO (.ref C) dd a) := I1.hok a _ ha
  obtain ⟨⟨oe, vs, g1, g2, g3, g4⟩, _, _⟩ := hz
  have hx : ObjOk Y.prog Y.w H1 s1.heap dd (.xd fs) := I1.hok dd _ hd
  obtain ⟨mA, hns, hr⟩ := hx
  obtain ⟨od, ho, hl⟩ := lookIn_ns hns
  obtain ⟨u, hu, ru⟩ := RelO.some_of (v := v) (o := mA n) (by rw [← l]; exact hr n)
  have J : PySem.W.InstAt s1.heap a oe C (some od) := ⟨g1, g2, by unfold PySem.W.notCls; rw [g4] <;> rfl, by rw [g3]; exact ho⟩
  exact PySem.HandSPX.exc_get I1.kIn J T.ga T.gg T.exC (PySem.W.findObj_own T.hdC hno rfl (by rw [hl, hu])) (handed_of ru) ⟨v, H1, I1.tok _, ru, q⟩
theorem RepV.errE {v : V} {c : Nat} {fs : List (Str × D)} (h : RepV W S H v (.err c fs)) : ∃ a dd vs, v = .ref a ∧ H a = some (XdO (.ref (W.ca c)) dd a) ∧ H dd = some (.xd vs) ∧ RepFs W S H vs fs := by
  cases h with
  | err h1 h2 h3 h4 h5 => exact ⟨_, _, _, rfl, h1, h3, h5⟩
theorem ev_xf {T : Xtab} (hT : XtOk W T) (hK : Y.K = W.K) {e : Expr} {f : Str} {pos : Pos} {g : Env → EM D} (he : PE Y e (tEv W Wx g)) (hb : attributeBase e f Y.env (eval e Y.env) = eval e Y.env) : PE Y (.Attribute e f pos) (tEv W Wx (fXf T f g)) :=
  PE.imp (pe_xfT he hb) fun σ H Q ⟨S, μ, env, res, hS, hE, hf, hk⟩ => by
    refine tG.bind hS hE hf hk fun d μ1 S1 H1 l1 g1 e1 hf1 hk1 x rx => ?_
    cases d with
    | err c fs =>
      obtain ⟨hc, hf1⟩ := guardE_some hf1
      obtain ⟨d, e2, rfl⟩ := optE_some hf1
      obtain ⟨a, dd, vs, rfl, q1, q2, q3⟩ := rx.errE
      obtain ⟨t1, t2, _⟩ := hT c f (by simpa using hc)
      obtain ⟨v, l, rv⟩ := q3.lookup e2
      exact ⟨a, W.ca c, dd, vs, v, rfl, q1, by rw [hK]; exact t1, by rw [hK]; exact t2, q2, l, hk1.now g1 v rv⟩
    | _ => cases hf1
/-- f(e) by data -/
def fCallQ (n : Nat) (F : Fn) (g : Env → EM (List D)) : Env → EM D := fun env => bindE (g env) fun ds => guardE (decide (ds.length = n)) (F ds)
end
end EG
namespace EG
open PySem PySem.Spec PyProof.Rows L2
/-! raise C(..) -/
/-- an own exception class: its global name, its number, its code, the field that it takes -/
structure GX where
  name : Str
  cls : Nat
  code : Str
  fld : Option Str
def exD (code : Str) (fld : Option Str) (ds : List D) : List (Str × D) := match fld, ds with
  | some f, [d] => [(f, d), ("code", .str code)]
  | _, _ => [("code", .str code)]
def GXOk (W : Wd) (P : Program) (mg : Str → Option Value) (g : GX) : Prop := ∃ (B newId initId : String) (bm : List Value) (fI : Addr) (T : ExFn), ExB B newId initId bm ∧ ExI W.K P B newId initId bm (W.ca g.cls) fI T ∧ mg g.name = some (.ref (W.ca g.cls)) ∧ T.code = g.code ∧ T.fld.map (·.1) = g.fld ∧ g.code.length ≤ big ∧ mg "super" = none ∧ ∀ p, T.fld = some p → p.2 = p.1
def fRaise (g : GX) (f : Env → EM (List D)) : SM := liftE f fun ds env μ => match decide (ds.length = (if g.fld.isSome then 1 else 0)) with
  | true => some (.exc g.cls (exD g.code g.fld ds) env, μ)
  | false => none
section
variable {W : Wd} {S S' S1 : Ws} {H H' H1 : Hp} {σ : L2.St} {env : Env} {μ : Mu} {Wx : WX} {X : Cx} {Dn : Ends}
theorem exD_rep {T : ExFn} {g : GX} {vs : List V} {ds : List D} (r : RepVs W S H vs ds) (h1 : T.code = g.code) (h2 : T.fld.map (·.1) = g.fld) (hb : g.code.length ≤ big) : RepFs W S H (exFs T vs) (exD g.code g.fld ds) := by
  have one : RepFs W S H [(("code" : Str), V.str T.code)] [(("code" : Str), D.str g.code)] := by
    rw [h1]
    exact RepFs.cons (RepV.str _ hb) RepFs.nil
  unfold exFs exD
  cases hf : T.fld with
  | none =>
    rw [hf] at h2
    rw [← h2]
    cases r with
    | nil => exact one
    | cons r t => cases t <;> exact one
  | some p =>
    rw [hf] at h2
    rw [← h2]
    cases r with
    | nil => exact one
    | cons r t =>
      cases t with
      | nil => exact RepFs.cons r one
      | cons _ _ => exact one
end
/-! try -/
def endTry (i : Nat) : Option (SO × Mu) → Option (SO × Mu)
  | some (.nx e, μ) => some (.nx (e.set i .no), μ)
  | some (.rt d, μ) => some (.rt d, μ)
  | some (.br e, μ) => some (.br (e.set i .no), μ)
  | some (.ct e, μ) => some (.ct (e.set i .no), μ)
  | _ => none
def fTry (F : SM) (i : Nat) (ok : Nat → Bool) (G : SM) : SM := fun env μ => match F env μ with
  | some (.exc c fs env', μ') => (match ok c with
    | true => endTry i (G (env'.set i (.v (.err c fs))) μ')
    | false => none)
  | r => r
section
variable {W : Wd} {S S' S1 : Ws} {H H' H1 : Hp} {σ : L2.St} {env : Env} {μ : Mu} {Wx : WX} {X : Cx} {Dn : Ends}
end
/-! what is read where an exception is handled -/
/-- the hot expressions: a text, None, e.f, a pair, f(e) -/
inductive HE where
  | str (s : Str) | non | xf (i : Nat) (f : Str) | tup (a b : HE) | callQ (j i : Nat)
/-- a def that reads an exception: its name, what it does -/
structure GH where
  name : Str
  F : Fn
  lvl : Nat
def hev (T : Xtab) (hs : List GH) : HE → Env → EM D
  | .str s => fC (.str s)
  | .non => fC .non
  | .xf i f => fXf T f (fV i)
  | .tup a b => fTup (fCons (hev T hs a) (fCons (hev T hs b) fNil))
  | .callQ j i => match hs[j]? with
    | some g => fCallQ 1 g.F (fCons (fV i) fNil)
    | none => fun _ => failE
/-- a def of the kind: if e.code in (..): return (e.f,), then return () -/
inductive HF where
  | one (cs : List Str) (f : Str) | two (cs : List Str) (c0 f g : Str)
end EG
namespace EG
open PySem PySem.Spec PyProof.Rows L2
/-! cells that are lent for the time of a call -/
def inCl (cl : List (Str × Addr)) (b : Addr) : Bool := cl.any fun p => cl.lookup p.1 == some b
theorem inCl_of {cl : List (Str × Addr)} {y : Str} {c : Addr} (h : cl.lookup y = some c) : inCl cl c = true := by
  refine List.any_eq_true.mpr ⟨(y, c), PySem.mem_of_lookup h, by simp [h]⟩
theorem inCl_to {cl : List (Str × Addr)} {b : Addr} (h : inCl cl b = true) : ∃ y, cl.lookup y = some b := by
  obtain ⟨p, _, e⟩ := List.any_eq_true.mp h
  exact ⟨p.1, by simpa using e⟩
def takeH (cl : List (Str × Addr)) (H : Hp) : Hp := fun b => if inCl cl b = true then none else H b
def backH (cl : List (Str × Addr)) (H0 H : Hp) : Hp := fun b => if inCl cl b = true then H0 b else H b
def lendS (cl : List (Str × Addr)) (S : Ws) : Ws := { S with Ow := fun a => if inCl cl a = true then some .cap else S.Ow a }
def takeS (cl : List (Str × Addr)) (S : Ws) : Ws := { S with Ow := fun a => if inCl cl a = true then none else S.Ow a }
section
variable {cl : List (Str × Addr)} {H H0 : Hp} {h : Heap} {b : Addr} {S : Ws}
theorem takeH_in (i : inCl cl b = true) : takeH cl H b = none := if_pos i
theorem takeH_no (i : ¬ inCl cl b = true) : takeH cl H b = H b := if_neg i
theorem backH_in (i : inCl cl b = true) : backH cl H0 H b = H0 b := if_pos i
theorem backH_no (i : ¬ inCl cl b = true) : backH cl H0 H b = H b := if_neg i
theorem lendS_in (i : inCl cl b = true) : (lendS cl S).Ow b = some .cap := if_pos i
theorem lendS_no (i : ¬ inCl cl b = true) : (lendS cl S).Ow b = S.Ow b := if_neg i
theorem takeS_in (i : inCl cl b = true) : (takeS cl S).Ow b = none := if_pos i
theorem takeS_no (i : ¬ inCl cl b = true) : (takeS cl S).Ow b = S.Ow b := if_neg i
end
theorem frz_ok {P : Program} {w : World} {H : Hp} {h : Heap} {c : Addr} {o : Obj} (e : h.get? c = some o) : ObjOk P w H h c (frzO c o) := ⟨e, e, ⟨o, e⟩, fun h1 h2 z k => k o z⟩
section
variable {X : Cx} {pins : List (Addr × Obj)} {σ : L2.St} {H : Hp} {s : Shared}
end
/-! a call whose callee may call the closures that it gets: the cells are lent -/
abbrev Caps := List (Str × Nat)
def capsOf (caps : Caps) (env : EG.Env) : List (Str × D) := caps.filterMap fun (p : Str × Nat) => match env[p.2]? with
  | some (Slot.v d) => some (p.1, d)
  | _ => none
def lend (cl : List (Str × Addr)) (ds : List (Str × D)) (m : EM D) : EM D := fun μ => match μ[0]? with
  | some (Cell.cap none) => (match m (μ.set 0 (.cap (some (cl, ds)))) with
    | some (.ok d, μ') => some (.ok d, μ'.set 0 (.cap none))
    | _ => none)
  | _ => none
def fCallZ (n : Nat) (F : Fn) (cl : List (Str × Addr)) (caps : Caps) (g : EG.Env → EM (List D)) : EG.Env → EM D := fun env => bindE (g env) fun ds => guardE (decide (ds.length = n)) (lend cl (capsOf caps env) (F ds))
section
variable {W : Wd} {S S' S1 : Ws} {H H' H1 : Hp} {σ : L2.St} {env : EG.Env} {μ : Mu} {Wx : WX} {X : Cx} {pins : List (Addr × Obj)} {s : Shared}
theorem take_mono {cl : List (Str × Addr)} (hc : ∀ a, inCl cl a = true → S.Ow a = some .cap) : (∀ a o, S.Ow a = none → H a = some o → (takeS cl S).Ow a = none ∧ takeH cl H a = some o) ∧ (∀ (n : Nat) a, S.ρ[n]? = some a → S.Ow a = some (.cell n) → (takeS cl S).ρ[n]? = some a ∧ (takeS cl S).Ow a = some (.cell n)) :=
  ⟨fun a o e q => by
    have i : ¬ inCl cl a = true := fun i => by rw [hc a i] at e; cases e
    exact ⟨by rw [takeS_no i]; exact e, by rw [takeH_no i]; exact q⟩,
   fun n a e q => by
    have i : ¬ inCl cl a = true := fun i => by rw [hc a i] at q; cases q
    exact ⟨e, by rw [takeS_no i]; exact q⟩⟩
theorem take_sg {cl : List (Str × Addr)} (hc : ∀ a, inCl cl a = true → S.Ow a = some .cap) (g : Sg W S H μ) : Sg W (takeS cl S) (takeH cl H) (μ.set 0 (.cap none)) where
  wf := fun a w e => by
    by_cases i : inCl cl a = true
    · rw [takeS_in i] at e; cases e
    · rw [takeS_no i] at e
      obtain ⟨u, q⟩ := g.wf a w e
      exact ⟨u, by rw [takeH_no i]; exact q⟩
  len := by rw [List.length_set]; exact g.len
  cells := fun n c e hi => by
    by_cases hn : n = 0
    · subst hn
      by_cases hl : 0 < μ.length
      · rw [List.getElem?_set_self hl] at e; cases e; cases hi
      · rw [List.getElem?_eq_none (by rw [List.length_set]; omega)] at e; cases e
    · rw [List.getElem?_set_ne (Ne.symm hn)] at e
      obtain ⟨a, e1, e2, r⟩ := g.cells n c e hi
      obtain ⟨q1, q2⟩ := (take_mono (H := H) hc).2 n a e1 e2
      have i : ¬ inCl cl a = true := fun i => by rw [hc a i] at e2; cases e2
      exact ⟨a, q1, q2, r.mono (take_mono hc).1 (take_mono (H := H) hc).2 (by rw [takeH_no i])⟩
  ext := ⟨fun cl' ds e => by
    by_cases hl : 0 < μ.length
    · rw [List.getElem?_set_self hl] at e; cases e
    · rw [List.getElem?_eq_none (by rw [List.length_set]; omega)] at e; cases e⟩
end
end EG
namespace EG
open PySem PySem.Spec PyProof.Rows L2
/-! a closure is called: its cells are taken for the time of its body, and lent again behind it -/
abbrev lamE (q : Str) (scope : Scope) (L f c' : Addr) (clos : List (Str × Addr)) : PySem.Env := PySem.W.envX q scope L f (.ref c') clos
def lamX (P : Program) (w : World) (K : PySem.W.Frag) (mg : Str → Option Value) (base : Heap) (N : List Str) (q : Str) (scope : Scope) (f c' : Addr) (A : Around) (outer : List PySem.Env) (s : Shared) (H : Hp) (clos : List (Str × Addr)) (E : XK) : Cx where
  prog := P
  w := w
  K := K
  mg := mg
  base := base
  A := A.deeper (lamE q scope s.heap.objs.size f c' clos)
  N := N
  s_0 := s
  H_0 := H
  env := lamE q scope s.heap.objs.size f c' clos
  outer := outer
  stack := lamE q scope s.heap.objs.size f c' clos :: outer
  ex := []
  fn := fun _ => false
  calm := true
  pn := []
  xe := fun e s' => wpAny (model P w) (A.deeper (lamE q scope s.heap.objs.size f c' clos)) (leaving (lamE q scope s.heap.objs.size f c' clos) e) (fun _ s'' => L2.CX P w outer H s E e s'') (fun e' s'' => L2.CX P w outer H s E e' s'') s'
/-- the names of a closure's text: params as locals, captured ones free, nothing else of its own -/
structure LamOkS (cl : List (Str × Addr)) (scope : Scope) (pn : List Str) : Prop where
  kind : scope.kind = .function
  co : scope.isCoroutine = false
  gen : scope.isGenerator = false
  own : ∀ y ∈ scope.names, y.2 ≠ .cell
  loc : ∀ y, scope.names.lookup y = some .local → y ∈ pn
  par : ∀ y ∈ pn, scope.names.lookup y = some .local
  free : ∀ y ∈ scope.names, y.2 = .free → ∃ c, cl.lookup y.1 = some c
section
variable {P : Program} {w : World} {K : PySem.W.Frag} {mg : Str → Option Value} {base : Heap} {A : Around} {outer : List PySem.Env} {s : Shared} {H H' : Hp} {cl : List (Str × Addr)} {scope : Scope} {pn : List Str}
theorem clos_sub (L : LamOkS cl scope pn) {y : Str} {c : Addr} (h : (cloFrom cl scope.names []).lookup y = some c) : cl.lookup y = some c ∧ (y, NameKind.free) ∈ scope.names := by
  rcases cloFrom_mem (PySem.mem_of_lookup h) with hm | ⟨h1, h2⟩
  · cases hm
  · obtain ⟨c1, hc⟩ := L.free _ h1 rfl
    have hc : cl.lookup y = some c1 := hc
    rw [hc] at h2
    have h2 : c = c1 := h2
    exact ⟨by rw [hc, h2], h1⟩
theorem clos_has (L : LamOkS cl scope pn) {y : Str} (h : scope.names.lookup y = some .free) : ∃ c, (cloFrom cl scope.names []).lookup y = some c := by
  have hy : (y, NameKind.free) ∈ scope.names := PySem.mem_of_lookup h
  exact mem_lookup (cloFrom_has (cells := cl) (acc := []) hy)
/-- what is lent at the entry -/
structure Lent (K : PySem.W.Frag) (cl : List (Str × Addr)) (s : Shared) (H : Hp) : Prop where
  inj : ∀ x y c, cl.lookup x = some c → cl.lookup y = some c → x = y
  at_ : ∀ c, inCl cl c = true → ∃ (oc : Obj) (v : Option Value), H c = some (frzO c oc) ∧ oc.data = .cell v ∧ s.heap.get? c = some oc
theorem take_hok (hL : Lent K cl s H) (hok : HOk P w H s.heap) {h1 : Heap} (kp : ∀ b o, s.heap.get? b = some o → h1.get? b = some o) : HOk P w (takeH cl H) h1 := fun b o e => by
  have i : ¬ inCl cl b = true := fun i => by rw [takeH_in i] at e; cases e
  rw [takeH_no i] at e
  have no : ∀ {c : Addr} {u : HO}, H c = some u → (∀ o z, u ≠ .frz o z) → takeH cl H c = some u := fun {c u} q n => by
    rw [takeH_no (fun i => by
      obtain ⟨oc, v, h1, _⟩ := hL.at_ c i
      rw [q] at h1
      exact n _ _ (Option.some.inj h1))]
    exact q
  exact (hok b o e).stay (fun c u _ q => kp c u q) (fun c q => no q (fun _ _ z => nomatch z)) fun c xs q => no q (fun _ _ z => nomatch z)
theorem lam_inv {N : List Str} {q : Str} {f c' : Addr} {E : XK} {h1 : Heap} {tk : Nat} {binds : List (Str × Value)} {σ : L2.St} (L : LamOkS cl scope pn) (hL : Lent K cl s H) (e0 : Env0 P w K mg base A outer s H) (hd : A.handled = none)
    (hns : h1.Ns s.heap.objs.size fun y => binds.reverse.lookup y) (kp : ∀ b o, s.heap.get? b = some o → h1.get? b = some o) (hlen : σ.length = N.length)
    (hσ : ∀ (i : Nat) (y : Str) (v : V), N[i]? = some y → σ[i]? = some (some v) → Vis scope y → (scope.names.lookup y = some .local ∧ ∃ u, RelV v u ∧ binds.reverse.lookup y = some u) ∨ (scope.names.lookup y = some .free ∧ ∃ c u oc, cl.lookup y = some c ∧ RelV v u ∧ s.heap.get? c = some oc ∧ oc.data = .cell (some u))) :
    Inv (lamX P w K mg base N q scope f c' A outer s (takeH cl H) (cloFrom cl scope.names []) E) [] σ (takeH cl H) { s with heap := h1, toks := tk } := by
  have noA : ∀ b : Addr, b ∉ (lamX P w K mg base N q scope f c' A outer s (takeH cl H) (cloFrom cl scope.names []) E).ex := fun b z => absurd (show b ∈ ([] : List Addr) from z) (by simp)
  have tn : ∀ {b : Addr}, H b = none → takeH cl H b = none := fun {b} h => by
    by_cases i : inCl cl b = true
    · exact takeH_in i
    · rw [takeH_no i]; exact h
  refine ⟨⟨e0.mod, L.kind, rfl, rfl, Nat.le_refl _, fun y z c h2 h3 => hL.inj y z c (clos_sub L h2).1 (clos_sub L h3).1, fun y hy => ?_, fun y c z _ => Bool.noConfusion (show false = true from z), fun _ => hd, Around.frames_deeper e0.frames, .inr ⟨rfl, rfl⟩, fun b z => absurd z (noA b), fun b o e => ?_, e0.bsz, fun b _ _ => noA b,
      fun b z => absurd z (noA b), e0.funs, fun b hb => tn (e0.frf b hb)⟩,
    rfl, e0.bare, Un.kept kp, ⟨_, hns, fun i y v g1 g2 g3 => ?_⟩, fun y c e => ?_, tn (e0.hok.fresh (Nat.le_refl _)), fun y c e => ?_, fun p hp => absurd (show p ∈ ([] : List (Addr × Obj)) ++ [] from hp) (by simp), take_hok hL e0.hok kp, hlen⟩
  · have hy : scope.names.lookup y = some .cell ∨ scope.names.lookup y = some .free := hy
    rcases hy with hy | hy
    · exact absurd rfl (L.own _ (PySem.mem_of_lookup hy))
    · exact clos_has L hy
  · obtain ⟨b1, b2⟩ := e0.bs b o e
    exact ⟨b1, tn b2⟩
  · rcases hσ i y v g1 g2 g3 with ⟨k, u, ru, hb⟩ | ⟨k, c, u, oc, l, ru, hoc, hdc⟩
    · exact ⟨u, ru, .inl ⟨k, hb⟩⟩
    · obtain ⟨c2, h2⟩ := clos_has L k
      have : c2 = c := by
        have := (clos_sub L h2).1
        rw [l] at this; cases this; rfl
      subst this
      exact ⟨u, ru, .inr ⟨.inr k, c2, h2, oc, kp _ _ hoc, hdc⟩⟩
  · obtain ⟨oc, v, _, h3, h4⟩ := hL.at_ c (inCl_of (clos_sub L e).1)
    exact ⟨v, oc, kp _ _ h4, h3⟩
  · exact takeH_in (inCl_of (clos_sub L e).1)
theorem lent_nofr (hL : Lent K cl s H) (e0 : Env0 P w K mg base A outer s H) {c : Addr} (i : inCl cl c = true) : c ∉ frs outer := fun h => by
  obtain ⟨oc, v, h1, _⟩ := hL.at_ c i
  rw [e0.frf c h] at h1; cases h1
theorem back_un {h' : Heap} (hL : Lent K cl s H) (e0 : Env0 P w K mg base A outer s H) (un : Un (frs outer) [] (takeH cl H) H' s.heap h') : Un (frs outer) [] H (backH cl H H') s.heap h' where
  keep := fun b o e n hb hx => by
    have i : ¬ inCl cl b = true := fun i => by obtain ⟨_, _, h1, _⟩ := hL.at_ b i; rw [n] at h1; cases h1
    exact un.keep b o e (by rw [takeH_no i]; exact n) hb hx
  slot := fun b o e n hb hx => by
    have i : ¬ inCl cl b = true := fun i => by obtain ⟨_, _, h1, _⟩ := hL.at_ b i; rw [n] at h1; cases h1
    exact un.slot b o e (by rw [takeH_no i]; exact n) hb hx
  free := fun b o e n hx => by
    have i : ¬ inCl cl b = true := fun i => by obtain ⟨_, _, h1, _⟩ := hL.at_ b i; rw [n] at h1; cases h1
    rw [backH_no i]
    exact un.free b o e (by rw [takeH_no i]; exact n) hx
  there := un.there
  tups := fun b xs q => by
    have i : ¬ inCl cl b = true := fun i => by obtain ⟨_, _, h1, _⟩ := hL.at_ b i; rw [q] at h1; cases h1
    rw [backH_no i]; exact un.tups b xs (by rw [takeH_no i]; exact q)
  frzs := fun b o u q => by
    by_cases i : inCl cl b = true
    · rw [backH_in i]; exact q
    · rw [backH_no i]; exact un.frzs b o u (by rw [takeH_no i]; exact q)
  tbls := fun b ps q => by
    have i : ¬ inCl cl b = true := fun i => by obtain ⟨_, _, h1, _⟩ := hL.at_ b i; rw [q] at h1; cases h1
    obtain ⟨m, e⟩ := un.tbls b ps (by rw [takeH_no i]; exact q)
    exact ⟨m, by rw [backH_no i]; exact e⟩
theorem back_hok {B : Heap} (hL : Lent K cl s H) (hno : ∀ c, inCl cl c = true → H' c = none) (hB : ∀ c oc, inCl cl c = true → s.heap.get? c = some oc → B.get? c = some oc) (hok : HOk P w H' B) : HOk P w (backH cl H H') B := fun b o e => by
  by_cases i : inCl cl b = true
  · rw [backH_in i] at e
    obtain ⟨oc, v, h1, h2, h3⟩ := hL.at_ b i
    rw [h1] at e; cases e
    exact frz_ok (hB b oc i h3)
  · rw [backH_no i] at e
    have no : ∀ {c : Addr} {u : HO}, H' c = some u → backH cl H H' c = some u := fun {c u} q => by
      rw [backH_no (fun i => by rw [hno c i] at q; cases q)]; exact q
    exact (hok b o e).stay (fun _ _ _ q => q) (fun c q => no q) fun c xs q => no q
theorem lam_run {N : List Str} {q : Str} {f c' : Addr} {params : Arguments} {body : Expr} {dV pm ctv doc : Value} {binds : List (Str × Value)} {σ : L2.St} {t : TE} {k : Nat} {Q : VK} {E : XK} (L : LamOkS cl scope pn) (hL : Lent K cl s H) (hr : Room (k + 1) A) (e0 : Env0 P w K mg base A outer s H)
    (hf : s.heap.get? f = some (PySem.W.kdv_obj "<lambda>" q params (.expr body) scope (cloFrom cl scope.names []) dV doc pm c' ctv)) (hc : ∃ (oc : Obj) (vs : Array Value) (tk : Tok), s.heap.get? c' = some oc ∧ oc.data = .fields vs ∧ vs[1]? = some (.str q tk))
    (hb : BindsTo s (PySem.W.kdv_fn "<lambda>" q params (.expr body) scope (cloFrom cl scope.names []) dV doc pm (.ref c') ctv) ⟨[], []⟩ binds) (hbl : ∀ y ∈ binds, y.1 ∈ pn) (hlen : σ.length = N.length)
    (hσ : ∀ (i : Nat) (y : Str) (v : V), N[i]? = some y → σ[i]? = some (some v) → Vis scope y → (scope.names.lookup y = some .local ∧ ∃ u, RelV v u ∧ binds.reverse.lookup y = some u) ∨ (scope.names.lookup y = some .free ∧ ∃ c u oc, cl.lookup y = some c ∧ RelV v u ∧ s.heap.get? c = some oc ∧ oc.data = .cell (some u)))
    (hbody : PE (lamX P w K mg base N q scope f c' A outer s (takeH cl H) (cloFrom cl scope.names []) fun cls d H' => (∀ c, inCl cl c = true → H' c = none) → E cls d (backH cl H H')) body t)
    (ht : t σ (takeH cl H) fun v H' => (∀ c, inCl cl c = true → H' c = none) → Q v (backH cl H H')) :
    codeAny (model P w) A (.call (.ref f) ⟨[], []⟩) (CR (L2.CX P w) outer P w H s Q E) s := by
  obtain ⟨oc, vs, tk, c1, c2, c3⟩ := hc
  have lim : s.heap.NoLimit := e0.mod.nolimit.keeps fun b o e => (e0.bs b o e).1
  refine PySem.W.kla_callFunE hr.depth hf rfl L.co L.gen rfl ⟨c', oc, vs, tk, rfl, c1, c2, c3⟩ ?_
  refine hb _ _ _ _ ?_
  refine wpAny_newFunctionEnv L.own (fun y hy => L.par _ (hbl y hy)) (fun h1 hns hsb => ⟨lim.fresh _ hsb, ?_⟩) L.kind
  show codeAny _ _ (.expr body (lamE q scope s.heap.objs.size f c' (cloFrom cl scope.names []))) _ _
  have kp : ∀ b o, s.heap.get? b = some o → h1.get? b = some o := fun b o e => hsb.extBut b o (Nat.ne_of_lt (Heap.lt_size e)) (Heap.get?_push_of_some _ e)
  have I := lam_inv (q := q) (f := f) (c' := c') (E := fun cls d H' => (∀ c, inCl cl c = true → H' c = none) → E cls d (backH cl H H')) (tk := s.toks + binds.length) L hL e0 hr.hd hns kp hlen hσ
  have keepC : ∀ {H' : Hp} {s' : Shared}, Un (frs outer) [] (takeH cl H) H' s.heap s'.heap → ∀ c, inCl cl c = true → H' c = none ∧ ∀ oc, s.heap.get? c = some oc → s'.heap.get? c = some oc := fun {H' s'} un c i => by
    obtain ⟨oc, v, h1, h2, h3⟩ := hL.at_ c i
    exact ⟨un.free c oc h3 (takeH_in i) (by simp), fun oc e => un.keep c oc e (takeH_in i) (lent_nofr hL e0 i) (by simp)⟩
  refine PySem.W.kla_codeExpr (wpAny_mono (hbody.run [] _ σ _ _ I ht) (fun v s' hq => ?_) fun e s' hq => ?_)
  · obtain ⟨v', H', J, rv, q⟩ := hq
    have un : Un (frs outer) [] (takeH cl H) H' s.heap s'.heap := J.base
    have kc := keepC un
    exact ⟨v', backH cl H H', J.os, J.bare, back_un hL e0 un, back_hok hL (fun c i => (kc c i).1) (fun c oc i e => (kc c i).2 oc e) J.hok, rv, q fun c i => (kc c i).1⟩
  · refine wpAny_mono hq (fun _ s'' z => ?_) fun e' s'' z => ?_
    all_goals
      obtain ⟨a, B, H', cls, d, rfl, fl, hokB, ub, na, os, ag, hE⟩ := z
      have kc : ∀ c, inCl cl c = true → H' c = none ∧ ∀ oc, s.heap.get? c = some oc → B.get? c = some oc := fun c i => by
        obtain ⟨oc, v, h1, h2, h3⟩ := hL.at_ c i
        exact ⟨ub.free c oc h3 (takeH_in i), fun oc e => ub.keep c oc e (takeH_in i) (lent_nofr hL e0 i)⟩
      have ni : ∀ {b : Addr}, H b = none → ¬ inCl cl b = true := fun {b} n i => by obtain ⟨_, _, h1, _⟩ := hL.at_ b i; rw [n] at h1; cases h1
      have nt : ∀ {b : Addr} {u : HO}, H b = some u → (∀ o z, u ≠ .frz o z) → ¬ inCl cl b = true := fun {b u} q n i => by obtain ⟨_, _, h1, _⟩ := hL.at_ b i; rw [q] at h1; exact n _ _ (Option.some.inj h1)
      refine ⟨a, B, backH cl H H', cls, d, rfl, fl, back_hok hL (fun c i => (kc c i).1) (fun c oc i e => (kc c i).2 oc e) hokB, ⟨fun b o e n hb => ub.keep b o e (by rw [takeH_no (ni n)]; exact n) hb, ub.slot, fun b o e n => by rw [backH_no (ni n)]; exact ub.free b o e (by rw [takeH_no (ni n)]; exact n), ub.there, fun b xs q => ?_, fun b o u q => ?_, fun b ps q => ?_⟩, ?_, os, ag, hE fun c i => (kc c i).1⟩
      · have i := nt q (fun _ _ z => nomatch z)
        rw [backH_no i]; exact ub.tups b xs (by rw [takeH_no i]; exact q)
      · by_cases i : inCl cl b = true
        · rw [backH_in i]; exact q
        · rw [backH_no i]; exact ub.frzs b o u (by rw [takeH_no i]; exact q)
      · have i := nt q (fun _ _ z => nomatch z)
        obtain ⟨m, e⟩ := ub.tbls b ps (by rw [takeH_no i]; exact q)
        exact ⟨m, by rw [backH_no i]; exact e⟩
      · have i : ¬ inCl cl a = true := fun i => by
          obtain ⟨oc, v, h1, h2, h3⟩ := hL.at_ a i
          have := (kc a i).2 oc h3
          rw [fl.2.1] at this; cases this
        rw [backH_no i]; exact na
end
end EG
namespace EG
open PySem PySem.Spec PyProof.Rows L2
/-! closures by data -/
section
variable {W : Wd} {S S' S1 : Ws} {H H' H1 : Hp} {σ : L2.St} {env : EG.Env} {μ μ' : Mu} {Wx : WX} {X : Cx} {cl : List (Str × Addr)} {ds : List (Str × D)}
theorem cap_own (hC : CapOk W S H cl ds) {c : Addr} (i : inCl cl c = true) : S.Ow c = some .cap ∧ ∃ (oc : Obj) (v : Option Value), H c = some (frzO c oc) ∧ oc.data = .cell v := by
  obtain ⟨y, e⟩ := inCl_to i
  exact hC.2.1 y c e
theorem lb_lt (hC : CapOk W S H cl ds) (g : Sg W S H μ) (l : LtE (takeS cl S) (takeH cl H) S' H') (g' : Sg W S' H' μ') (hno : ∀ c, inCl cl c = true → H' c = none) : LtE S H (lendS cl S') (backH cl H H') where
  dat := fun a o e q => by
    have i : ¬ inCl cl a = true := fun i => by rw [(cap_own hC i).1] at e; cases e
    obtain ⟨h1, h2⟩ := l.dat a o (by rw [takeS_no i]; exact e) (by rw [takeH_no i]; exact q)
    exact ⟨by rw [lendS_no i]; exact h1, by rw [backH_no i]; exact h2⟩
  own := fun a w e k => by
    by_cases i : inCl cl a = true
    · have := (cap_own hC i).1
      rw [e] at this; cases this
      exact ⟨lendS_in i, backH_in i⟩
    · obtain ⟨h1, h2⟩ := l.own a w (by rw [takeS_no i]; exact e) k
      exact ⟨by rw [lendS_no i]; exact h1, by rw [backH_no i, h2, takeH_no i]⟩
  cel := fun n a e q => by
    have i : ¬ inCl cl a = true := fun i => by rw [(cap_own hC i).1] at q; cases q
    obtain ⟨h1, h2⟩ := l.cel n a e (by show (takeS cl S).Ow a = _; rw [takeS_no i]; exact q)
    exact ⟨h1, by rw [lendS_no i]; exact h2⟩
  mem := fun a h => by
    by_cases i : inCl cl a = true
    · rw [backH_in i]; exact h
    · rw [backH_no i]; exact l.mem a (by rw [takeH_no i]; exact h)
theorem lb_mono (g' : Sg W S' H' μ') (hno : ∀ c, inCl cl c = true → H' c = none) : (∀ a o, S'.Ow a = none → H' a = some o → (lendS cl S').Ow a = none ∧ backH cl H H' a = some o) ∧ (∀ (n : Nat) a, S'.ρ[n]? = some a → S'.Ow a = some (.cell n) → (lendS cl S').ρ[n]? = some a ∧ (lendS cl S').Ow a = some (.cell n)) :=
  ⟨fun a o e q => by
    have i : ¬ inCl cl a = true := fun i => by rw [hno a i] at q; cases q
    exact ⟨by rw [lendS_no i]; exact e, by rw [backH_no i]; exact q⟩,
   fun n a e q => by
    have i : ¬ inCl cl a = true := fun i => by
      obtain ⟨u, z⟩ := g'.wf a _ q
      rw [hno a i] at z; cases z
    exact ⟨e, by rw [lendS_no i]; exact q⟩⟩
theorem lb_sg (hC : CapOk W S H cl ds) (g : Sg W S H μ) (l : LtE (takeS cl S) (takeH cl H) S' H') (g' : Sg W S' H' μ') (hno : ∀ c, inCl cl c = true → H' c = none) : Sg W (lendS cl S') (backH cl H H') (μ'.set 0 (.cap (some (cl, ds)))) where
  wf := fun a w e => by
    by_cases i : inCl cl a = true
    · obtain ⟨_, oc, v, h1, _⟩ := cap_own hC i
      exact ⟨_, by rw [backH_in i]; exact h1⟩
    · rw [lendS_no i] at e
      obtain ⟨u, q⟩ := g'.wf a w e
      exact ⟨u, by rw [backH_no i]; exact q⟩
  len := by rw [List.length_set]; exact g'.len
  cells := fun n c e hi => by
    by_cases hn : n = 0
    · subst hn
      by_cases hl : 0 < μ'.length
      · rw [List.getElem?_set_self hl] at e; cases e; cases hi
      · rw [List.getElem?_eq_none (by rw [List.length_set]; omega)] at e; cases e
    · rw [List.getElem?_set_ne (Ne.symm hn)] at e
      obtain ⟨a, e1, e2, r⟩ := g'.cells n c e hi
      obtain ⟨q1, q2⟩ := (lb_mono (H := H) g' hno).2 n a e1 e2
      have i : ¬ inCl cl a = true := fun i => by
        obtain ⟨u, z⟩ := g'.wf a _ e2
        rw [hno a i] at z; cases z
      exact ⟨a, q1, q2, r.mono (lb_mono g' hno).1 (lb_mono (H := H) g' hno).2 (by rw [backH_no i])⟩
  ext := ⟨fun cl' ds' e => by
    by_cases hl : 0 < μ'.length
    · rw [List.getElem?_set_self hl] at e
      cases e
      have lt := lb_lt hC g l g' hno
      refine ⟨hC.1, fun y c h => ?_, fun y d h => ?_⟩
      · obtain ⟨_, z⟩ := hC.2.1 y c h
        exact ⟨lendS_in (inCl_of h), by rw [backH_in (inCl_of h)]; exact z⟩
      · obtain ⟨c, oc, u, v, z1, z2, z3, z4, z5⟩ := hC.2.2 y d h
        exact ⟨c, oc, u, v, z1, by rw [backH_in (inCl_of z1)]; exact z2, z3, z4, z5.later lt⟩
    · rw [List.getElem?_eq_none (by rw [List.length_set]; omega)] at e; cases e⟩
end
/-! a closure's parameters: none, or one that is 0 -/
def par0 : Arguments → Bool
  | ⟨[], [], none, [], [], none, []⟩ => true
  | _ => false
def par1 (nm : Str) : Arguments → Bool
  | ⟨[], [⟨x, _, _⟩], none, [], [], none, [.Constant (.int 0) _ _]⟩ => decide (x = nm) && (decide (nm = "_law_a") || (decide (nm = "_law_b") || (decide (nm = "_law_c") || (decide (nm = "_law_d") || decide (nm = "_law_f")))))
  | _ => false
section
open PySem.W
variable {s : Shared} {q : Str} {body : Expr} {scope : Scope} {cl : List (Str × Addr)} {pm cdv ct doc : Value} {params : Arguments}
theorem bind_par0 (h : par0 params = true) : BindsTo s (kdv_fn "<lambda>" q params (.expr body) scope cl .none doc pm cdv ct) ⟨[], []⟩ [] := by
  unfold par0 at h
  split at h
  · exact BindsTo.of_eq rfl
  · cases h
theorem bind_par1 {nm : Str} {T : Addr} {o : Obj} {v : Value} {n : Nat} (h : par1 nm params = true) (ho : s.heap.get? T = some o) (hs : o.data = .seq #[v] n) : BindsTo s (kdv_fn "<lambda>" q params (.expr body) scope cl (.ref T) doc pm cdv ct) ⟨[], []⟩ [(nm, v)] := by
  unfold par1 at h
  split at h
  · simp only [Bool.and_eq_true, Bool.or_eq_true, decide_eq_true_eq] at h
    obtain ⟨rfl, h⟩ := h
    rcases h with rfl | rfl | rfl | rfl | rfl
    · exact BindsTo.of_defaults rfl ho hs (by rfl) (by rfl)
    · exact BindsTo.of_defaults rfl ho hs (by rfl) (by rfl)
    · exact BindsTo.of_defaults rfl ho hs (by rfl) (by rfl)
    · exact BindsTo.of_defaults rfl ho hs (by rfl) (by rfl)
    · exact BindsTo.of_defaults rfl ho hs (by rfl) (by rfl)
  · cases h
end
/-! what a closure's body sees -/
def slotL (pn : List Str) (ds : List (Str × D)) (y : Str) : Slot := match pn.contains y with
  | true => .v (.int 0)
  | false => match ds.lookup y with
    | some d => .v d
    | none => .no
def envL (N pn : List Str) (ds : List (Str × D)) : EG.Env := N.map (slotL pn ds)
def lamF (N pn : List Str) (fe : EG.Env → EM D) (ds : List (Str × D)) : EM D := fun μ => match μ[0]? with
  | some z => (match fe (envL N pn ds) (μ.set 0 (.cap none)) with
    | some (o, μ') => some (o, μ'.set 0 z)
    | none => none)
  | none => none
/-- closures may be called here: LF says what the n-th does with what is captured -/
def LamOk (W : Wd) (P : Program) (w : World) (mg : Str → Option Value) (base : Heap) (k : Nat) (LF : Nat → List (Str × D) → EM D) : Prop :=
  ∀ (A : Around) (outer : List PySem.Env) (s : Shared) (H : Hp) (f : Addr) (n : Nat) (cl : List (Str × Addr)) (ds : List (Str × D)) (S : Ws) (μ : Mu) (res : Out D × Mu) (Q : VK) (E : XK), Room k A → Env0 P w W.K mg base A outer s H → Sg W S H μ → RepV W S H (.ref f) (.clo n cl) → μ[0]? = some (.cap (some (cl, ds))) →
    LF n ds μ = some res → KF W S H Q E res → codeAny (model P w) A (.call (.ref f) ⟨[], []⟩) (CR (L2.CX P w) outer P w H s Q E) s
/-- the n-th closure's text: N the names that it sees, pn its parameters, fe what it computes -/
structure LamDf (W : Wd) (P : Program) (w : World) (mg : Str → Option Value) (base : Heap) (k n : Nat) (N pn : List Str) (fe : EG.Env → EM D) : Prop where
  par : ∀ b params body scope, W.lamB n b params body scope = true → (b = false ∧ pn = [] ∧ par0 params = true) ∨ (b = true ∧ ∃ nm, pn = [nm] ∧ par1 nm params = true)
  sc : ∀ b params body scope, W.lamB n b params body scope = true → scope.kind = .function ∧ scope.isCoroutine = false ∧ scope.isGenerator = false ∧ (∀ y ∈ scope.names, y.2 ≠ .cell) ∧ (∀ y, scope.names.lookup y = some .local → y ∈ pn) ∧ ∀ y ∈ pn, scope.names.lookup y = some .local
  run : ∀ b params body scope, W.lamB n b params body scope = true → ∀ (q : Str) (f c' : Addr) (A : Around) (outer : List PySem.Env) (s : Shared) (H : Hp) (clos : List (Str × Addr)) (E : XK), Room k (A.deeper (lamE q scope s.heap.objs.size f c' clos)) → Env0 P w W.K mg base A outer s H →
    PE (lamX P w W.K mg base N q scope f c' A outer s H clos E) body (tEv W (fun cls d _ H' => E cls d H') fe)
section
variable {W : Wd} {P : Program} {w : World} {mg : Str → Option Value} {base : Heap} {S S' : Ws} {H H' : Hp} {μ : Mu}
/-- slots for the names, with what they stand for -/
theorem slotsL {cl : List (Str × Addr)} {ds : List (Str × D)} {pn : List Str} (hC : CapOk W S H cl ds) (mono : ∀ v d, RepV W S H v d → RepV W S' H' v d) (N : List Str) : ∃ σ : L2.St, EnvOk W S' H' σ (envL N pn ds) ∧ σ.length = N.length ∧
    ∀ (i : Nat) (y : Str) (v : V), N[i]? = some y → σ[i]? = some (some v) → (y ∈ pn ∧ v = .int 0) ∨ (y ∉ pn ∧ ∃ c oc u, cl.lookup y = some c ∧ H c = some (frzO c oc) ∧ oc.data = .cell (some u) ∧ RelV v u) := by
  induction N with
  | nil => exact ⟨[], ⟨rfl, fun i sl e => nomatch e⟩, rfl, fun i y v e => nomatch e⟩
  | cons y N ih =>
    obtain ⟨σ, hE, hl, hσ⟩ := ih
    have key : ∃ sv : Option V, SlotRep W S' H' 0 (some sv) (slotL pn ds y) ∧ (∀ i sl, sl = slotL pn ds y → SlotRep W S' H' i (some sv) sl) ∧ ∀ v, sv = some v → (y ∈ pn ∧ v = .int 0) ∨ (y ∉ pn ∧ ∃ c oc u, cl.lookup y = some c ∧ H c = some (frzO c oc) ∧ oc.data = .cell (some u) ∧ RelV v u) := by
      unfold slotL
      cases hp : pn.contains y with
      | true =>
        have hm : y ∈ pn := by simpa using hp
        exact ⟨some (.int 0), ⟨_, rfl, .int 0⟩, fun i sl e => by subst e; exact ⟨_, rfl, .int 0⟩, fun v e => by cases e; exact .inl ⟨hm, rfl⟩⟩
      | false =>
        have hm : y ∉ pn := fun z => by rw [List.contains_iff_mem.mpr z] at hp; cases hp
        cases q : ds.lookup y with
        | none => exact ⟨none, trivial, fun i sl e => by subst e; trivial, fun v e => nomatch e⟩
        | some d =>
          obtain ⟨c, oc, u, v, e1, e2, e3, e4, e5⟩ := hC.2.2 y d q
          exact ⟨some v, ⟨_, rfl, mono _ _ e5⟩, fun i sl e => by subst e; exact ⟨_, rfl, mono _ _ e5⟩, fun v' e => by cases e; exact .inr ⟨hm, c, oc, u, e1, e2, e3, e4⟩⟩
    obtain ⟨sv, _, k1, k2⟩ := key
    refine ⟨sv :: σ, ⟨by show (slotL pn ds y :: envL N pn ds).length = _; simp [hE.len], fun i sl e => ?_⟩, by simp [hl], fun i z v e1 e2 => ?_⟩
    · cases i with
      | zero =>
        have e : some (slotL pn ds y) = some sl := e
        cases e
        exact k1 0 _ rfl
      | succ i =>
        have z := hE.at_ i sl e
        cases sl with
        | no => trivial
        | v d => exact z
        | own c =>
          have e : (envL N pn ds)[i]? = some (.own c) := e
          unfold envL at e
          rw [List.getElem?_map] at e
          cases q : N[i]? with
          | none => rw [q] at e; cases e
          | some y' =>
            rw [q] at e
            have e : slotL pn ds y' = .own c := Option.some.inj e
            unfold slotL at e
            split at e
            · cases e
            · split at e <;> cases e
    · cases i with
      | zero => cases e1; cases e2; exact k2 _ rfl
      | succ i => exact hσ i z v e1 e2
theorem lam_ok {k n : Nat} {N pn : List Str} {fe : EG.Env → EM D} (T : LamDf W P w mg base k n N pn fe) {A : Around} {outer : List PySem.Env} {s : Shared} {f : Addr} {cl : List (Str × Addr)} {ds : List (Str × D)} {res : Out D × Mu} {Q : VK} {E : XK}
    (hr : Room (k + 1) A) (e0 : Env0 P w W.K mg base A outer s H) (g : Sg W S H μ) (rv : RepV W S H (.ref f) (.clo n cl)) (h0 : μ[0]? = some (.cap (some (cl, ds)))) (hf : lamF N pn fe ds μ = some res) (hk : KF W S H Q E res) :
    codeAny (model P w) A (.call (.ref f) ⟨[], []⟩) (CR (L2.CX P w) outer P w H s Q E) s := by
  have hC := g.ext.cap cl ds h0
  have hL : Lent W.K cl s H := ⟨hC.1, fun c i => by
    obtain ⟨_, oc, v, h1, h2⟩ := cap_own hC i
    exact ⟨oc, v, h1, h2, (e0.hok c _ h1).1⟩⟩
  have hown : ∀ a, inCl cl a = true → S.Ow a = some .cap := fun a i => (cap_own hC i).1
  unfold lamF at hf
  rw [h0] at hf
  cases hr0 : fe (envL N pn ds) (μ.set 0 (.cap none)) with
  | none => rw [hr0] at hf; cases hf
  | some r0 =>
    obtain ⟨o, μ'⟩ := r0
    rw [hr0] at hf
    cases hf
    obtain ⟨σ, hE, hlen, hσ⟩ := slotsL (pn := pn) (S' := takeS cl S) (H' := takeH cl H) hC (fun v d r => r.mono (take_mono hown).1 (take_mono (H := H) hown).2) N
    have kg : KG W (takeS cl S) (takeH cl H) σ (fun cls d _ H' => (∀ c, inCl cl c = true → H' c = none) → E cls d (backH cl H H')) (okV W fun v H' => (∀ c, inCl cl c = true → H' c = none) → Q v (backH cl H H')) (o, μ') := by
      cases o with
      | ok d => exact fun S' H' l g' v r hno => hk _ _ v (lb_lt hC g l g' hno) (lb_sg hC g l g' hno) (r.mono (lb_mono g' hno).1 (lb_mono (H := H) g' hno).2)
      | exc c fs =>
        intro S' H' dd vs l g' h1 h2 h3 hno
        have i : ¬ inCl cl dd = true := fun i => by rw [hno dd i] at h1; cases h1
        exact hk _ _ dd vs (lb_lt hC g l g' hno) (lb_sg hC g l g' hno) (by rw [backH_no i]; exact h1) (by rw [lendS_no i]; exact h2) (h3.mono (lb_mono g' hno).1 (lb_mono (H := H) g' hno).2)
    have ht : tEv W (fun cls d _ H' => (∀ c, inCl cl c = true → H' c = none) → E cls d (backH cl H H')) fe σ (takeH cl H) (fun v H' => (∀ c, inCl cl c = true → H' c = none) → Q v (backH cl H H')) :=
      ⟨takeS cl S, _, _, _, take_sg hown g, hE, hr0, kg⟩
    have e0t : ∀ {scope : Scope}, LamOkS cl scope pn → Env0 P w W.K mg base A outer s (takeH cl H) := fun {scope} L => ⟨e0.frames, e0.mod, fun b ob e => by
        obtain ⟨b1, b2⟩ := e0.bs b ob e
        refine ⟨b1, ?_⟩
        by_cases i : inCl cl b = true
        · exact takeH_in i
        · rw [takeH_no i]; exact b2, e0.bsz, e0.funs, fun b hb => by
        by_cases i : inCl cl b = true
        · exact takeH_in i
        · rw [takeH_no i]; exact e0.frf b hb, take_hok hL e0.hok (fun _ _ q => q), e0.bare⟩
    cases rv with
    | @clo _ c' _ _ q params body scope pm ctv doc a1 a2 a3 a4 a5 a6 =>
      obtain ⟨t1, t2, t3, t4, t5, t6⟩ := T.sc _ _ _ _ a5
      have L : LamOkS cl scope pn := ⟨t1, t2, t3, t4, t5, t6, a6⟩
      rcases T.par _ _ _ _ a5 with ⟨_, hpn, hp⟩ | ⟨z, _⟩
      · refine lam_run L hL hr e0 (e0.hok f _ a1).1 (e0.hok c' _ a3).1 (bind_par0 hp) (fun y hy => nomatch hy) hlen (fun i y v e1 e2 hv => ?_) (T.run _ _ _ _ a5 _ _ _ _ _ _ _ _ _ (hr.deeper _) (e0t L)) ht
        rcases hσ i y v e1 e2 with ⟨hm, _⟩ | ⟨hm, c, oc, u, z1, z2, z3, z4⟩
        · rw [hpn] at hm; cases hm
        · rcases hv with hv | hv | hv
          · exact absurd (L.loc y hv) hm
          · exact absurd rfl (L.own _ (PySem.mem_of_lookup hv))
          · exact .inr ⟨hv, c, u, oc, z1, z4, (e0.hok c _ z2).1, z3⟩
      · cases z
    | @clo1 _ c' TT _ _ q params body scope pm ctv doc a1 a2 a3 a4 a7 a8 a5 a6 =>
      obtain ⟨t1, t2, t3, t4, t5, t6⟩ := T.sc _ _ _ _ a5
      have L : LamOkS cl scope pn := ⟨t1, t2, t3, t4, t5, t6, a6⟩
      rcases T.par _ _ _ _ a5 with ⟨z, _⟩ | ⟨_, nm, hpn, hp⟩
      · cases z
      · obtain ⟨_, its, rits, ob, hob, _, nn, hdata⟩ := e0.hok TT _ a7
        cases rits with
        | cons ru rt =>
          cases rt
          rename_i u
          refine lam_run L hL hr e0 (e0.hok f _ a1).1 (e0.hok c' _ a3).1 (bind_par1 hp hob hdata) (fun y hy => by
            rw [hpn]
            have : y = (nm, u) := by simpa using hy
            rw [this]; simp) hlen (fun i y v e1 e2 hv => ?_) (T.run _ _ _ _ a5 _ _ _ _ _ _ _ _ _ (hr.deeper _) (e0t L)) ht
          rcases hσ i y v e1 e2 with ⟨hm, hv0⟩ | ⟨hm, c, oc, uu, z1, z2, z3, z4⟩
          · rw [hpn] at hm
            have hy : y = nm := by simpa using hm
            subst hy hv0
            exact .inl ⟨L.par _ (by rw [hpn]; simp), u, ru, by simp⟩
          · rcases hv with hv | hv | hv
            · exact absurd (L.loc y hv) hm
            · exact absurd rfl (L.own _ (PySem.mem_of_lookup hv))
            · exact .inr ⟨hv, c, uu, oc, z1, z4, (e0.hok c _ z2).1, z3⟩
end
/-! x(), x a local that holds a closure -/
def fAct (LF : Nat → List (Str × D) → EM D) (i : Nat) : EG.Env → EM D := fun env => match env[i]? with
  | some (Slot.v (D.clo n cl)) => fun μ => (match μ[0]? with
    | some (Cell.cap (some (cl', ds))) => (match decide (cl = cl') with
      | true => LF n ds μ
      | false => none)
    | _ => none)
  | _ => failE
section
variable {W : Wd} {X : Cx} {Wx : WX}
end
end EG
namespace EG
open PySem PySem.Spec PyProof.Rows L2
/-! closures made -/
section
variable {X : Cx} {pins : List (Addr × Obj)} {σ : L2.St} {H : Hp} {s : Shared}
end
section
variable {W : Wd} {S : Ws} {H H1 : Hp} {μ : Mu} {P : Addr} {q : Str} {t : Nat}
end
/-- the n-th closure over the frame's cells; its maker's table of code objects is the store's t-th cell -/
def fLam (n : Nat) (cl : List (Str × Addr)) (t : Nat) (P : Addr) (q : Str) : EG.Env → EM D := fun _ μ => match μ[t]? with
  | some (.tbl P' q') => (match decide (P' = P) && decide (q' = q) with
    | true => some (.ok (.clo n cl), μ)
    | false => none)
  | _ => none
section
variable {W : Wd} {X : Cx} {Wx : WX}
/-- what is asked of the maker -/
structure MkOk (W : Wd) (X : Cx) (P : Addr) (q : Str) (c : Addr) : Prop where
  tb : LamX.TabB X.base X.mg c P
  code : X.env.code = .ref c
  qual : X.env.qual ++ "<lambda>" = q
end
end EG
namespace EG
open PySem PySem.Spec PyProof.Rows L2
/-! x in o by an own __contains__ -/
section
variable {prog : Program} {w : World} {A : Around} {E : Value → Shared → Prop} {s : Shared} {K : PySem.W.Frag} {x C L f : Addr} {h₀ : Heap} {m : Str → Option Value} {ox : Obj} {od : Option Obj} {name : Str} {b tb : Value}
end
section
variable {W : Wd} {S S' S1 : Ws} {H H' H1 : Hp} {σ : L2.St} {env : Env} {μ : Mu} {Wx : WX} {X : Cx} {k : Nat} {C f : Addr} {fd : FuncData} {ps : List Str} {sp : Sp}
def inOp (neg : Bool) : CmpOp := match neg with
  | true => .NotIn
  | false => .In
def inC (neg : Bool) (c : Nat) (F : Fn) (d e : D) : EM D := fun μ => match objD e μ with
  | some (c', _) => (match c' == c with
    | true => (match F [e, d] μ with
      | some (.ok (.bl b), μ') => some (.ok (.bl (neg != b)), μ')
      | _ => none)
    | false => none)
  | none => none
def fOwnIn (neg : Bool) (c : Nat) (F : Fn) (fa fb : Env → EM D) : Env → EM D := fun env => bindE (fa env) fun d => bindE (fb env) fun e => inC neg c F d e
end
end EG
namespace EG
open PySem L2
/-! list comprehensions with two clauses -/
def compL2 (p : Pat) (cond : Env → EM Bool) (vs1 : List Nat) (p1 : Pat) (src1 : Env → EM (List D)) (cond1 : Env → EM Bool) (elt : Env → EM D) (env : Env) : List D → EM (List D)
  | [] => pureE []
  | d :: r => match bindP p d env with
    | none => failE
    | some env1 => bindE (noX (cond env1)) fun b => match b with
      | true => bindE (noX (src1 env1)) fun es => bindE (compL p1 cond1 elt (wipeE env1 vs1) es) fun xs => bindE (compL2 p cond vs1 p1 src1 cond1 elt env r) fun ys => pureE (xs ++ ys)
      | false => compL2 p cond vs1 p1 src1 cond1 elt env r
def fComp2 (vs : List Nat) (p : Pat) (src : Env → EM (List D)) (cond : Env → EM Bool) (vs1 : List Nat) (p1 : Pat) (src1 : Env → EM (List D)) (cond1 : Env → EM Bool) (elt : Env → EM D) : Env → EM (List D) :=
  fun env => bindE (src env) fun ds => bindE (compL2 p cond vs1 p1 src1 cond1 elt (wipeE env vs) ds) fun xs => guardE (decide (xs.length ≤ big)) (pureE xs)
section
variable {W : Wd} {S S' S1 : Ws} {H H' H1 : Hp} {σ : St} {env : Env} {μ : Mu} {Wx : WX} {α β : Type} {X : Cx} {Dn : Ends} {k : Own → Prop} {tg : Expr}
end
end EG
namespace L2
open PySem PySem.Spec PyProof.Rows
end L2
namespace EG
open PySem PySem.Spec PyProof.Rows L2
/-! x in a list, both plain data of any depth -/
def inPL (x : D) (ys : List D) : Option Bool := match layD x, layAll ys with
  | some p, some qs => if p.depth ≤ 64 ∧ (PyData.list qs).depth ≤ 64 then some (qs.any fun z => PyData.eqv z p) else none
  | _, _ => none
def inPD : D → D → EM D := fun x y => match y with
  | .lst ys => optE ((inPL x ys).map .bl)
  | _ => failE
def notInPD : D → D → EM D := fun x y => match y with
  | .lst ys => optE ((inPL x ys).map fun b => .bl (!b))
  | _ => failE
theorem inPL_rep {W : Wd} {S : Ws} {H : Hp} {x y : V} {d : D} {ys : List D} {b : Bool} (rx : RepB W S H x d) (ry : RepB W S H y (.lst ys)) (h : inPL d ys = some b) : ∃ p qs, Dp W.K H x p ∧ Dp W.K H y (.list qs) ∧ SeqAt.shaped p = true ∧ SeqAt.shaped (.list qs) = true ∧ (qs.any fun z => PyData.eqv z p) = b := by
  unfold inPL at h
  cases q1 : layD d with
  | none => rw [q1] at h; cases h
  | some p =>
    cases q2 : layAll ys with
    | none => rw [q1, q2] at h; cases h
    | some qs =>
      rw [q1, q2] at h
      simp only at h
      split at h
      · cases h
        rename_i hd
        have q3 : layD (.lst ys) = some (.list qs) := by unfold layD; rw [q2]
        obtain ⟨a, x⟩ := lay_B rx q1
        obtain ⟨b, y⟩ := lay_B ry q3
        exact ⟨p, qs, a, b, by simp [SeqAt.shaped, x, hd.1], by simp [SeqAt.shaped, y, hd.2], rfl⟩
      · cases h
theorem os_inP {W : Wd} : OpSpec W (rInD W.K) inPD := by
  intro x y d e S H μ res σ Wx Q hS rx ry hf hk
  cases e with
  | lst ys =>
    obtain ⟨z, hz, rfl⟩ := optE_some hf
    obtain ⟨b, hb, rfl⟩ := map_some hz
    have q := hk.val hS (.bl _)
    obtain ⟨p, qs, h1, h2, h3, h4, h5⟩ := inPL_rep rx ry hb
    exact ⟨p, qs, h1, h2, h3, h4, by rw [h5]; exact q⟩
  | _ => cases hf
theorem os_notInP {W : Wd} : OpSpec W (rNotInD W.K) notInPD := by
  intro x y d e S H μ res σ Wx Q hS rx ry hf hk
  cases e with
  | lst ys =>
    obtain ⟨z, hz, rfl⟩ := optE_some hf
    obtain ⟨b, hb, rfl⟩ := map_some hz
    have q := hk.val hS (.bl _)
    obtain ⟨p, qs, h1, h2, h3, h4, h5⟩ := inPL_rep rx ry hb
    exact ⟨p, qs, h1, h2, h3, h4, by rw [h5]; exact q⟩
  | _ => cases hf
/-! a tuple as a key of a dict of one's own -/
def intU : Value → Bool
  | .int .. => true
  | _ => false
/-- tuples of two and more ints stand nowhere in the written part -/
def intsO (o : Obj) : Bool := match o.data with
  | .seq its _ => decide (2 ≤ its.toList.length) && its.toList.all intU
  | _ => false
def noTup (K : PySem.W.Frag) : Bool := K.all fun p => !(intsO p.2)
def keyD : D → Option Key
  | .int i => some (.inl i)
  | .str s => some (.inr s)
  | _ => none
def keysD : List D → Option (List Key)
  | [] => some []
  | d :: r => match keyD d, keysD r with
    | some k, some ks => some (k :: ks)
    | _, _ => none
def tkD : D → Option (List Key)
  | .tup ds => keysD ds
  | _ => none
def hasK (kvs : List (List Key × D)) (ks : List Key) : Bool := kvs.any fun kv => decide (kv.1 = ks)
section
variable {W : Wd} {S S' S1 : Ws} {H H' H1 : Hp} {σ : L2.St} {env : Env} {μ : Mu} {Wx : WX} {X : Cx}
def inTC (neg : Bool) (n : Nat) (env : Env) (d : D) : EM D := fun μ => match env[n]?, tkD d with
  | some (.own (.dT kvs)), some ks => some (.ok (.bl (neg != hasK kvs ks)), μ)
  | _, _ => none
def fInT (neg : Bool) (n : Nat) (fe : Env → EM D) : Env → EM D := fun env => bindE (fe env) fun d => inTC neg n env d
end
end EG
namespace EG
open PySem PySem.Spec PyProof.Rows L2
/-! zip of three -/
def ItzG3 (K : PySem.W.Frag) (κ κ' κ'' : Bool) (a b c : Addr) : It :=
  ⟨fun i H => ∃ (xs ys zs : List V) (x y z : V), SqG K κ H a xs ∧ SqG K κ' H b ys ∧ SqG K κ'' H c zs ∧ xs[i]? = some x ∧ ys[i]? = some y ∧ zs[i]? = some z,
    fun i H v H' => ∃ T x y z, v = .ref T ∧ H T = none ∧ H' = upd H T (.tup [x, y, z]) ∧ (∀ xs, SqG K κ H a xs → xs[i]? = some x) ∧ (∀ ys, SqG K κ' H b ys → ys[i]? = some y) ∧ ∀ zs, SqG K κ'' H c zs → zs[i]? = some z,
    fun i H => ∃ xs ys zs : List V, SqG K κ H a xs ∧ SqG K κ' H b ys ∧ SqG K κ'' H c zs ∧ i = min (min xs.length ys.length) zs.length⟩
theorem turn_zipG3 {P : Program} {w : World} {K : PySem.W.Frag} {κ κ' κ'' : Bool} {elts : List Expr} {kk : Nat} {tpos : Pos} {a b c z TI TO i1 i2 i3 : Addr} (D : ZipSep3 z TI TO i1 i2 i3 [i1, a] [i2, b] [i3, c]) (ha : a ≠ i1) (hb : b ≠ i2) (hcc : c ≠ i3) :
    Turn P w K (.Tuple elts kk tpos) (ItzG3 K κ κ' κ'' a b c) [z, TI, TO, i1, i2, i3] z (fun i h => IsZip h z TI TO .none ∧ IsTupOf3 h TI (.ref i1) (.ref i2) (.ref i3) ∧ (∃ x y u, IsTupOf3 h TO x y u) ∧ IterG κ h i1 a i ∧ IterG κ' h i2 b i ∧ IterG κ'' h i3 c i) where
  mem := by simp
  obj := fun i h st d hd => by
    obtain ⟨hz, hTI, ⟨x, y, u, hTO⟩, h1, h2, h3⟩ := st
    have e' : d = z ∨ d = TI ∨ d = TO ∨ d = i1 ∨ d = i2 ∨ d = i3 := by simpa using hd
    rcases e' with q | q | q | q | q | q
    · rw [q]; exact ⟨_, hz, fun v q => nomatch q⟩
    · rw [q]; exact ⟨_, hTI, fun v q => nomatch q⟩
    · rw [q]; exact ⟨_, hTO, fun v q => nomatch q⟩
    · rw [q]; exact iterG_obj h1
    · rw [q]; exact iterG_obj h2
    · rw [q]; exact iterG_obj h3
  keep := fun i h h' st k => by
    obtain ⟨hz, hTI, ⟨x, y, u, hTO⟩, h1, h2, h3⟩ := st
    exact ⟨k z (by simp) _ hz, k TI (by simp) _ hTI, ⟨x, y, u, k TO (by simp) _ hTO⟩, iterG_keep h1 fun o q => k i1 (by simp) o q, iterG_keep h2 fun o q => k i2 (by simp) o q, iterG_keep h3 fun o q => k i3 (by simp) o q⟩
  item := by
    intro X hP hw hK hc i pins s σ H E I hf st hg
    subst hP hw hK
    obtain ⟨hz, hTI, hTO, h1, h2, h3⟩ := st
    obtain ⟨xs, ys, zs, x, y, u0, hqx, hqy, hqz, hx, hy, hu0⟩ := hg
    obtain ⟨its, rv, p, hlt⟩ := inv_G I hqx
    obtain ⟨its2, rv2, p2, hlt2⟩ := inv_G I hqy
    obtain ⟨its3, rv3, p3, hlt3⟩ := inv_G I hqz
    obtain ⟨u, hu, ru⟩ := rv.get hx
    obtain ⟨u2, hu2, ru2⟩ := rv2.get hy
    obtain ⟨u3, hu3, ru3⟩ := rv3.get hu0
    have l1 : i < its.toArray.size := by have := (List.getElem?_eq_some_iff.mp hu).1; simpa using this
    have l2 : i < its2.toArray.size := by have := (List.getElem?_eq_some_iff.mp hu2).1; simpa using this
    have l3 : i < its3.toArray.size := by have := (List.getElem?_eq_some_iff.mp hu3).1; simpa using this
    have hh := wT_in1 (I.ok.hd hc)
    have Wk := WalksT.zipD3 (prog := X.prog) (w := X.w) (A := X.A) D (draws_G hh κ i1 a ha its.toArray) (draws_G hh κ' i2 b hb its2.toArray) (draws_G hh κ'' i3 c hcc its3.toArray)
    refine Wk.item i s _ _ (by omega) ⟨hz, hTI, hTO, ⟨h1, p⟩, ⟨h2, p2⟩, h3, p3⟩ fun T vals h' tk hPt hT hIsT hMid hk => ⟨_, rfl, Wk.go elts kk tpos i T _ _ _ hMid fun h'' st'' hk2 => ?_⟩
    obtain ⟨v1, v2, v3, hv1, hv2, hv3, rfl⟩ := hPt
    have e1 : v1 = u := by
      have : its.toArray[i]? = some u := by simpa using hu
      rw [this] at hv1; exact (Option.some.inj hv1).symm
    have e2 : v2 = u2 := by
      have : its2.toArray[i]? = some u2 := by simpa using hu2
      rw [this] at hv2; exact (Option.some.inj hv2).symm
    have e3 : v3 = u3 := by
      have : its3.toArray[i]? = some u3 := by simpa using hu3
      rw [this] at hv3; exact (Option.some.inj hv3).symm
    subst e1 e2 e3
    have hTn := Wk.apart i T _ hMid
    obtain ⟨oT, hoT, c1, n1, d1⟩ := hIsT
    have hT2 : h''.get? T = some oT := hk2 T oT hTn hoT
    have new : ObjOk X.prog X.w (upd H T (.tup [x, y, u0])) h'' T (.tup [x, y, u0]) :=
      ⟨by show 3 ≤ sizeLine; decide, [v1, v2, v3], .cons ru (.cons ru2 (.cons ru3 .nil)), ⟨oT, hT2, c1, n1, d1⟩⟩
    have I1 : Inv X pins σ (upd H T (.tup [x, y, u0])) { s with heap := h'', toks := tk } :=
      I.turnedNew (ch := [z, TO, i1, i2, i3]) (fun b ob hb q => hk2 b ob hb (hk b ob hb q)) (fun b hb => hf b (by
        have hb' : b = z ∨ b = TO ∨ b = i1 ∨ b = i2 ∨ b = i3 := by simpa using hb
        rcases hb' with q | q | q | q | q <;> simp [q])) hT new
    refine ⟨.ref T, _, I1, rfl, ⟨T, x, y, u0, rfl, I.hok.fresh hT, rfl, fun l hl => by rw [inj_G I hl hqx]; exact hx, fun l hl => by rw [inj_G I hl hqy]; exact hy, fun l hl => by rw [inj_G I hl hqz]; exact hu0⟩, ⟨st''.1, st''.2.1, st''.2.2.1, st''.2.2.2.1.1, st''.2.2.2.2.1.1, st''.2.2.2.2.2.1⟩, fun d hdm => ?_⟩
    have hlt : d < s.heap.objs.size := by
      have e' : d = z ∨ d = TI ∨ d = TO ∨ d = i1 ∨ d = i2 ∨ d = i3 := by simpa using hdm
      obtain ⟨w1, w2, w3, hTO⟩ := hTO
      rcases e' with q | q | q | q | q | q
      · rw [q]; exact Heap.lt_size hz
      · rw [q]; exact Heap.lt_size hTI
      · rw [q]; exact Heap.lt_size hTO
      · rw [q]; obtain ⟨o, e1, _⟩ := iterG_obj h1; exact Heap.lt_size e1
      · rw [q]; obtain ⟨o, e1, _⟩ := iterG_obj h2; exact Heap.lt_size e1
      · rw [q]; obtain ⟨o, e1, _⟩ := iterG_obj h3; exact Heap.lt_size e1
    rw [upd_ne (Nat.ne_of_lt (Nat.lt_of_lt_of_le hlt hT))]
    exact (hf d hdm).1
  done := by
    intro X hP hw hK hc i pins s σ H E I hf st hg
    subst hP hw hK
    obtain ⟨hz, hTI, hTO, h1, h2, h3⟩ := st
    obtain ⟨xs, ys, zs, hqx, hqy, hqz, hend⟩ := hg
    obtain ⟨its, rv, p, _⟩ := inv_G I hqx
    obtain ⟨its2, rv2, p2, _⟩ := inv_G I hqy
    obtain ⟨its3, rv3, p3, _⟩ := inv_G I hqz
    have l1 := rv.length
    have l2 := rv2.length
    have l3 := rv3.length
    have hi : i = min (min its.toArray.size its2.toArray.size) its3.toArray.size := by simp; omega
    have hh := wT_in1 (I.ok.hd hc)
    have Wk := WalksT.zipD3 (prog := X.prog) (w := X.w) (A := X.A) D (draws_G hh κ i1 a ha its.toArray) (draws_G hh κ' i2 b hb its2.toArray) (draws_G hh κ'' i3 c hcc its3.toArray)
    subst hi
    exact Wk.done s _ _ ⟨hz, hTI, hTO, ⟨h1, p⟩, ⟨h2, p2⟩, h3, p3⟩ fun h' tk hk => ⟨rfl, I.turnedL (t' := tk) (ch := [z, TO, i1, i2, i3]) hk (fun b hb => hf b (by
        have hb' : b = z ∨ b = TO ∨ b = i1 ∨ b = i2 ∨ b = i3 := by simpa using hb
        rcases hb' with q | q | q | q | q <;> simp [q]))⟩
  self := fun A i s Q E st h => wpAny_pyIter_zip st.1 h
def iZipG3 (K : PySem.W.Frag) (ta : TA) : TI := fun σ H R => ta σ H fun vs H1 => ∃ κ κ' κ'' a b c xs ys zs, vs = [.ref a, .ref b, .ref c] ∧ SqG K κ H1 a xs ∧ SqG K κ' H1 b ys ∧ SqG K κ'' H1 c zs ∧ R (ItzG3 K κ κ' κ'' a b c) H1
theorem pi_zipG3 {X : Cx} {e e2 e3 : Expr} {ta : TA} {p pos tpos : Pos} {elts : List Expr} {kk : Nat} (hg : Gl X "zip") (hm : X.mg "zip" = none) (ha : PA X [e, e2, e3] ta)
    (hs : starEach [e, e2, e3] X.env = (false, eval e X.env) :: starEach [e2, e3] X.env) (hpl : (backTo pos (starEach [e2, e3] X.env)).any (·.1) = false) :
    PI X (.Tuple elts kk tpos) (.Call (.Name "zip" p) [e, e2, e3] [] pos) (iZipG3 X.K ta) := by
  refine ⟨fun pins s σ H R I h => ?_⟩
  refine Call_ (ld_blt I hg hm PyProof.Rows.boot_zip (PyProof.Rows.callWith_type1 (thn (ha.run pos pins s σ H _ I h) fun us s1 ⟨vs, H1, I1, r1, q1⟩ => ?_) hs hpl))
  obtain ⟨κ, κ', κ'', a, b, c, xs, ys, zs, ex, hqx, hqy, hqz, q⟩ := q1
  subst ex
  cases r1 with
  | cons r rr =>
    cases rr with
    | cons r' rr =>
      cases rr with
      | cons r'' rr =>
        cases rr
        cases r
        cases r'
        cases r''
        obtain ⟨its, rv, p1, la⟩ := inv_G I1 hqx
        obtain ⟨its2, rv2, p2, lb⟩ := inv_G I1 hqy
        obtain ⟨its3, rv3, p3, lc⟩ := inv_G I1 hqz
        refine zip_begins3 (begins_G κ a its.toArray) (begins_G κ' b its2.toArray) (begins_G κ'' c its3.toArray) p1 p2 p3 fun h' hz hTI hTO h1 h2 h3 hsz hk => wpAny_pyIter_zip hz ?_
        have I2 : Inv X pins σ H1 { s1 with heap := h' } := I1.kept (t' := s1.toks) hk
        refine ⟨s1.heap.objs.size + 5, [s1.heap.objs.size + 5, s1.heap.objs.size + 3, s1.heap.objs.size + 4, s1.heap.objs.size, s1.heap.objs.size + 1, s1.heap.objs.size + 2], _, _, H1, rfl, I2, turn_zipG3 (κ := κ) (κ' := κ') (κ'' := κ'') (zip_sep3 (fp1 := [a]) (fp2 := [b]) (fp3 := [c]) (fun d hd => by rw [List.mem_singleton.mp hd]; exact la) (fun d hd => by rw [List.mem_singleton.mp hd]; exact lb) (fun d hd => by rw [List.mem_singleton.mp hd]; exact lc)) (Nat.ne_of_lt la) (Nat.ne_of_lt (Nat.lt_succ_of_lt lb)) (Nat.ne_of_lt (Nat.lt_succ_of_lt (Nat.lt_succ_of_lt lc))), ⟨hz, hTI, ⟨_, _, _, hTO⟩, iterG_new h1, iterG_new h2, iterG_new h3⟩, fun d hdm => ?_, q⟩
        have e' : d = s1.heap.objs.size + 5 ∨ d = s1.heap.objs.size + 3 ∨ d = s1.heap.objs.size + 4 ∨ d = s1.heap.objs.size ∨ d = s1.heap.objs.size + 1 ∨ d = s1.heap.objs.size + 2 := by simpa using hdm
        have hle : s1.heap.objs.size ≤ d := by
          rcases e' with z | z | z | z | z | z
          · rw [z]; exact Nat.le_add_right _ _
          · rw [z]; exact Nat.le_add_right _ _
          · rw [z]; exact Nat.le_add_right _ _
          · rw [z]; exact Nat.le_refl _
          · rw [z]; exact Nat.le_add_right _ _
          · rw [z]; exact Nat.le_add_right _ _
        exact I1.fpOk hle (I1.hok.fresh hle)
def zip3L : List D → List D → List D → List D
  | a :: r, b :: s, c :: t => .tup [a, b, c] :: zip3L r s t
  | _, _, _ => []
theorem zip3L_get : ∀ (xs ys zs : List D) (i : Nat) (d : D), (zip3L xs ys zs)[i]? = some d → ∃ a b c, xs[i]? = some a ∧ ys[i]? = some b ∧ zs[i]? = some c ∧ d = .tup [a, b, c]
  | [], ys, zs, i, d, h => by simp [zip3L] at h
  | x :: r, [], zs, i, d, h => by simp [zip3L] at h
  | x :: r, y :: s, [], i, d, h => by simp [zip3L] at h
  | x :: r, y :: s, z :: t, 0, d, h => by simp [zip3L] at h; exact ⟨x, y, z, rfl, rfl, rfl, h.symm⟩
  | x :: r, y :: s, z :: t, i + 1, d, h => by
    obtain ⟨a, b, c, h1, h2, h3, h4⟩ := zip3L_get r s t i d (by simpa [zip3L] using h)
    exact ⟨a, b, c, by simpa using h1, by simpa using h2, by simpa using h3, h4⟩
theorem zip3L_len : ∀ (xs ys zs : List D), (zip3L xs ys zs).length = min (min xs.length ys.length) zs.length
  | [], ys, zs => by simp [zip3L]
  | x :: r, [], zs => by simp [zip3L]
  | x :: r, y :: s, [] => by simp [zip3L]
  | x :: r, y :: s, z :: t => by simp [zip3L, zip3L_len r s t]
def zip3D : List D → EM (List D)
  | [d, e, f] => optE ((seqI d).bind fun p => (seqI e).bind fun q => (seqI f).map fun r => zip3L p.2 q.2 r.2)
  | _ => failE
section
variable {W : Wd} {S : Ws} {H : Hp} {Wx : WX} {X : Cx} {k : Own → Prop}
theorem jok_zip3 {κ κ' κ'' : Bool} {a b c : Addr} {vs ws us : List V} {ds es fs : List D} (h1 : StG W S H κ a vs) (r : RepVs W S H vs ds) (h1' : StG W S H κ' b ws) (r' : RepVs W S H ws es) (h1'' : StG W S H κ'' c us) (r'' : RepVs W S H us fs) : JOk W k S H (ItzG3 W.K κ κ' κ'' a b c) (zip3L ds es fs) := by
  intro S' H' l hw
  have h2 := h1.later l
  have h2' := h1'.later l
  have h2'' := h1''.later l
  have r2 := r.later l
  have r2' := r'.later l
  have r2'' := r''.later l
  refine ⟨fun i d e => ?_, vs, ws, us, h2, h2', h2'', by rw [zip3L_len, r2.length, r2'.length, r2''.length]⟩
  obtain ⟨x, y, z, hx, hy, hz, rfl⟩ := zip3L_get ds es fs i d e
  obtain ⟨v, hv, rv⟩ := r2.get hx
  obtain ⟨w, hw', rw'⟩ := r2'.get hy
  obtain ⟨u, hu', ru'⟩ := r2''.get hz
  refine ⟨⟨vs, ws, us, v, w, u, h2, h2', h2'', hv, hw', hu'⟩, fun x H'' ⟨T, p, q, t, e1, e2, e3, e4, e5, e6⟩ => ?_⟩
  have z1 := e4 vs h2
  rw [hv] at z1
  cases z1
  have z2 := e5 ws h2'
  rw [hw'] at z2
  cases z2
  have z3 := e6 us h2''
  rw [hu'] at z3
  cases z3
  subst e1 e3
  have lt : LtE S' H' S' (upd H' T (.tup [v, w, u])) := lt_upd e2 hw
  have hT : S'.Ow T = none := by
    cases z : S'.Ow T with
    | none => rfl
    | some w => obtain ⟨u, q⟩ := hw T w z; rw [e2] at q; cases q
  exact ⟨lt, fun μ g => g.upd e2, .tup upd_same hT (by show 3 ≤ big; decide) (.cons (rv.later lt) (.cons (rw'.later lt) (.cons (ru'.later lt) .nil)))⟩
theorem src_zip3 (hK : X.K = W.K) {e e2 e3 : Expr} {p pos tpos : Pos} {elts : List Expr} {kk : Nat} {g : Env → EM (List D)} (hg : Gl X "zip") (hm : X.mg "zip" = none) (ha : PA X [e, e2, e3] (tEvs W Wx g)) (hs : starEach [e, e2, e3] X.env = (false, eval e X.env) :: starEach [e2, e3] X.env) (hpl : (backTo pos (starEach [e2, e3] X.env)).any (·.1) = false) :
    PI X (.Tuple elts kk tpos) (.Call (.Name "zip" p) [e, e2, e3] [] pos) (tSrc' W Wx k (fCB zip3D g)) :=
  PI.imp (pi_zipG3 hg hm ha hs hpl) fun σ H R ⟨S, μ, env, res, hS, hE, hf, hk⟩ => by
    refine tG.bind hS hE hf hk fun ds μ1 S1 H1 l1 g1 e1 hf1 hk1 vs rvs => ?_
    unfold zip3D at hf1
    split at hf1
    · obtain ⟨ys, hy, rfl⟩ := optE_some hf1
      obtain ⟨⟨κ, xs⟩, hx, hy⟩ := Option.bind_eq_some_iff.mp hy
      obtain ⟨⟨κ', ys⟩, hx', hy⟩ := Option.bind_eq_some_iff.mp hy
      obtain ⟨⟨κ'', zs⟩, hx'', rfl⟩ := map_some hy
      cases rvs with
      | cons rv t =>
        cases t with
        | cons rw' t =>
          cases t with
          | cons rw'' t =>
            cases t
            obtain ⟨a, us, rfl, h1, h3, h4⟩ := seqI_rep rv hx
            obtain ⟨b, us', rfl, h1', h3', h4'⟩ := seqI_rep rw' hx'
            obtain ⟨c, us'', rfl, h1'', h3'', h4''⟩ := seqI_rep rw'' hx''
            rw [hK]
            exact ⟨κ, κ', κ'', _, _, _, _, _, _, rfl, h1.later (Lt.refl (k := kE)), h1'.later (Lt.refl (k := kE)), h1''.later (Lt.refl (k := kE)), hk1.now g1 (by rw [zip3L_len, ← h4.length, ← h4'.length, ← h4''.length]; exact Nat.le_trans (Nat.min_le_left _ _) (Nat.le_trans (Nat.min_le_left _ _) h3)) _ (jok_zip3 h1 h4 h1' h4' h1'' h4'')⟩
    · cases hf1
end
end EG
namespace EG
open PySem PySem.Spec PyProof.Rows L2
/-! o & p by an own __and__ -/
section
variable {prog : Program} {w : World} {A : Around} {E : Value → Shared → Prop} {s : Shared} {K : PySem.W.Frag} {x C L f : Addr} {ox : Obj} {od : Option Obj}
end
section
variable {W : Wd} {S S' S1 : Ws} {H H' H1 : Hp} {σ : L2.St} {env : Env} {μ : Mu} {Wx : WX} {X : Cx} {k : Nat} {C f : Addr} {fd : FuncData} {ps : List Str} {sp : Sp}
def opC (c : Nat) (F : Fn) (d e : D) : EM D := fun μ => match objD d μ with
  | some (c', _) => (match c' == c with
    | true => (match objD e μ with
      | some (c2, _) => (match c2 == c with
        | true => F [d, e] μ
        | false => none)
      | none => none)
    | false => none)
  | none => none
def fOwnOp (c : Nat) (F : Fn) (fa fb : Env → EM D) : Env → EM D := fun env => bindE (fa env) fun d => bindE (fb env) fun e => opC c F d e
/-! a constant of a class -/
/-! xs[::-1] -/
theorem RepVs.rev : ∀ {vs : List V} {ds : List D}, RepVs W S H vs ds → RepVs W S H vs.reverse ds.reverse
  | _, _, .nil => .nil
  | _, _, .cons r t => by
    rw [List.reverse_cons, List.reverse_cons]
    exact (RepVs.rev t).append (.one r)
def revL : D → EM (List D) := fun d => bindE (lstE d) fun xs => pureE xs.reverse
def fRev (f : Env → EM D) : Env → EM (List D) := fun env => bindE (f env) revL
end
end EG
namespace EG
open PySem PySem.Spec PyProof.Rows L2
/-! texts joined and split; dicts of the module with text keys -/
def strsK : List D → Option (List Str)
  | [] => some []
  | d :: r => match d with
    | .str s => (strsK r).map (s :: ·)
    | _ => none
def asStr : D → Option Str
  | .str s => some s
  | _ => none
/-- a.m(b), a a text -/
def fM1 {α : Type} (op : Str → D → EM α) (f g : Env → EM D) : Env → EM α := fun env => bindE (f env) fun d => bindE (optE (asStr d)) fun a => bindE (g env) fun e => op a e
def joinD (a : Str) (e : D) : EM D := bindE (seqE e) fun xs => bindE (optE (strsK xs)) fun ys => guardE (decide ((ys.map (·.length)).sum + ys.length * a.length ≤ 16777216)) (pureE (.str (Txt.join a ys)))
def splitD (a : Str) (e : D) : EM (List D) := bindE (optE (asStr e)) fun b => guardE (decide (b.length ≠ 0) && (decide (a.length + 2 ≤ big) && (decide ((Txt.split a b).length ≤ big) && (Txt.split a b).all fun s => decide (s.length ≤ big)))) (pureE ((Txt.split a b).map .str))
section
variable {W : Wd} {S : Ws} {H : Hp} {σ : L2.St} {env : Env} {μ : Mu} {Wx : WX} {X : Cx}
/-! dicts of the module -/
structure GWd where
  name : Str
  kvs : List (Str × D)
def CstV (W : Wd) (u : Value) (d : D) : Prop := ∃ v, RelV v u ∧ ∀ S H, RepV W S H v d
def WdAt (W : Wd) (dd : Addr) (kvs : List (Str × D)) (z : Str) : Prop := (∃ x u, kvs.lookup z = some x ∧ PySem.W.nsIn W.K dd z = some (some u) ∧ CstV W u x) ∨ (kvs.lookup z = none ∧ PySem.W.nsIn W.K dd z = some none)
def GWdOk (W : Wd) (w : World) (mg : Str → Option Value) (g : GWd) : Prop := ∃ dd es n, KDict W.K w dd es n ∧ mg g.name = some (.ref dd) ∧ ∀ z, WdAt W dd g.kvs z
def wInD (neg : Bool) (kvs : List (Str × D)) (d : D) : EM D := bindE (optE (asStr d)) fun z => pureE (.bl (neg != (kvs.lookup z).isSome))
def wIxD (kvs : List (Str × D)) (d : D) : EM D := bindE (optE (asStr d)) fun z => optE (kvs.lookup z)
def wGetD (kvs : List (Str × D)) (d e : D) : EM D := bindE (optE (asStr d)) fun z => pureE ((kvs.lookup z).getD e)
def fW (op : D → EM D) (f : Env → EM D) : Env → EM D := fun env => bindE (f env) op
def fW2 (op : D → D → EM D) (f g : Env → EM D) : Env → EM D := fun env => bindE (f env) fun d => bindE (g env) fun e => op d e
end
end EG
namespace EG
open PySem PySem.Spec PyProof.Rows L2
/-! dicts whose keys are ints and texts: x in d, d[x] -/
def getK1 (kvs : List (Key × D)) (k : Key) : Option D := (kvs.find? fun kv => decide (kv.1 = k)).map (·.2)
def inKD (neg : Bool) : D → D → EM D := fun x y => match keyD x, y with
  | some k, .dK kvs => pureE (.bl (neg != (getK1 kvs k).isSome))
  | _, _ => failE
def ixKD : D → D → EM D := fun y x => match keyD x, y with
  | some k, .dK kvs => optE (getK1 kvs k)
  | _, _ => failE
section
variable {W : Wd} {S S' S1 : Ws} {H H' H1 : Hp} {σ : L2.St} {env : Env} {μ : Mu} {Wx : WX} {X : Cx}
theorem keyB_rep {v : V} {d : D} {k : Key} (r : RepB W S H v d) (e : keyD d = some k) : v = kV k := by
  cases d <;> first | cases e
  · cases r.int; rfl
  · obtain ⟨rfl, _⟩ := r.str; rfl
theorem getK1_is (k : Key) : ∀ {vs : List (Key × V)} {ds : List (Key × D)}, RepKs W S H vs ds → (valV vs k).isSome = (getK1 ds k).isSome := by
  intro vs ds r
  induction ds generalizing vs with
  | nil => cases r; rfl
  | cons p ds ih =>
    cases r with
    | @cons f v d1 vs fs a b =>
      by_cases e : f = k
      · rw [valV_pos e]
        unfold getK1
        rw [List.find?_cons]
        simp [e]
      · rw [valV_neg e, ih b]
        unfold getK1
        rw [List.find?_cons]
        simp [e]
def rInK (neg : Bool) : R2 := fun x y H Q => ∃ a kvs k, y = .ref a ∧ x = kV k ∧ H a = some (.dK kvs) ∧ Q (.bl (neg != (valV kvs k).isSome)) H
theorem op_inK {neg : Bool} (hu : X.A.units + 1 < cLine) : OpR X (compareOp (inOp neg)) (rInK neg) := by
  intro pins s σ H x y v u Q I rx ry ⟨a, kvs, k, ey, ex, ea, hq⟩
  subst ey; subst ex
  cases ry
  cases neg with
  | false => exact d_in hu I (.k ea) rx fun s' I' => ⟨.bl _, H, I', rfl, by simpa using hq⟩
  | true => exact d_notIn hu I (.k ea) rx fun s' I' => ⟨.bl _, H, I', rfl, by simpa using hq⟩
theorem os_inK {neg : Bool} : OpSpec W (rInK neg) (inKD neg) := by
  intro x y d e S H μ res σ Wx Q hS rx ry hf hk
  unfold inKD at hf
  cases e1 : keyD d with
  | none => rw [e1] at hf; cases hf
  | some k =>
    rw [e1] at hf
    cases e with
    | dK kvs =>
      cases hf
      obtain ⟨a, vs, rfl, h1, h2, h3⟩ := ry.dK
      have ex := keyB_rep rx e1
      refine ⟨a, vs, k, rfl, ex, h1, ?_⟩
      rw [getK1_is k h3]
      exact hk.val hS (.bl _)
    | _ => cases hf


end
end EG
namespace EG
open PySem L2
/-! [e for p in a] where a may be a cell: at each turn it is as it was; x or [] as a cell -/
noncomputable def seqQ (d : D) : EM ((Mu → Bool) × List D) := fun μ => match seqM d μ with
  | some (_, xs) => some (.ok (fun μ' => keepM d xs μ', xs), μ)
  | none => none
noncomputable def fCompM (vs : List Nat) (p : Pat) (f : Env → EM D) (cond : Env → EM Bool) (elt : Env → EM D) : Env → EM (List D) := fun env => bindE (f env) fun d => bindE (seqQ d) fun q => compLM q.1 p cond elt (wipeE env vs) q.2
section
variable {W : Wd} {S S' S1 : Ws} {H H' H1 : Hp} {σ : St} {env : Env} {μ : Mu} {Wx : WX} {α β : Type} {X : Cx} {Dn : Ends} {k : Own → Prop} {tg : Expr}
end
/-! x or [] -/
def orN (d : D) : EM D := fun μ => match d with
  | .non => newC (.lst []) μ
  | .cell n => match μ[n]? with
    | some (.lst []) => newC (.lst []) μ
    | some (.lst (_ :: _)) => some (.ok (.cell n), μ)
    | _ => none
  | _ => none
def fOrN (f : Env → EM D) : Env → EM D := fun env => bindE (f env) orN
section
variable {W : Wd} {S S' S1 : Ws} {H H' H1 : Hp} {σ : St} {env : Env} {μ : Mu} {Wx : WX} {X : Cx}
end
end EG
namespace L2
open PySem PySem.Spec PyProof.Rows
/-! min of a list of tuples of ints: the least by its first items that differ -/
def tpI (l : List Int) : PyData := .tuple (l.map .int)
def lexI (l : List Int) (ls : List (List Int)) : List Int := ls.foldl (fun a y => if decide (y < a) then y else a) l
theorem alike_ints : ∀ xs ys : List Int, PySem.W.alikeAll (xs.map .int) (ys.map .int) = true
  | [], _ => by simp [PySem.W.alikeAll]
  | _ :: _, [] => by simp [PySem.W.alikeAll]
  | x :: xs, y :: ys => by simp [PySem.W.alikeAll, PySem.W.alike, alike_ints xs ys]
theorem depth_ints : ∀ xs : List Int, PyData.depthAll (xs.map .int) = 0
  | [] => by simp [PyData.depthAll]
  | x :: xs => by simp [PyData.depthAll, PyData.depth, depth_ints xs]
theorem depth_tpI (l : List Int) : (tpI l).depth = 1 := by simp [tpI, PyData.depth, depth_ints]
theorem depth_tpIs : ∀ ls : List (List Int), PyData.depthAll (ls.map tpI) ≤ 1
  | [] => by simp [PyData.depthAll]
  | l :: ls => by have := depth_tpIs ls; have := depth_tpI l; simp only [List.map_cons, PyData.depthAll]; omega
theorem alike_tpI (l l' : List Int) : PySem.W.alike (tpI l) (tpI l') = true := by simp [tpI, PySem.W.alike, alike_ints]
theorem alikeAll_tpI (ls : List (List Int)) : PySem.W.AlikeAll (ls.map tpI) := by
  refine ⟨fun x hx y hy => ?_, fun x hx => ?_⟩
  · obtain ⟨l, _, rfl⟩ := List.mem_map.mp hx
    obtain ⟨l', _, rfl⟩ := List.mem_map.mp hy
    exact alike_tpI l l'
  · obtain ⟨l, _, rfl⟩ := List.mem_map.mp hx
    exact fun h => by cases h
theorem lt_tpI (l l' : List Int) : PySem.W.dataLt (tpI l) (tpI l') = decide (l < l') := by
  unfold tpI
  rw [PySem.W.dataLt_tuple]
  exact PySem.W.dataLt_ints l l'
theorem minD_tpI (l : List Int) (ls : List (List Int)) : PySem.W.minD (tpI l) (ls.map tpI) = tpI (lexI l ls) := by
  unfold PySem.W.minD lexI
  induction ls generalizing l with
  | nil => rfl
  | cons k r ih =>
    rw [List.map_cons, List.foldl_cons, List.foldl_cons, ← ih, lt_tpI]
    by_cases h : k < l
    · rw [if_pos (decide_eq_true h), if_pos (decide_eq_true h)]
    · rw [if_neg (by simpa using h), if_neg (by simpa using h)]
theorem tpI_inj {l l' : List Int} (h : tpI l = tpI l') : l = l' := by
  unfold tpI at h
  injection h with h
  exact (List.map_inj_right (fun a b e => by injection e)).mp h
theorem Vals.at {ws : List V} {us : List Value} (h : Vals ws us) : ∀ {i : Nat} {u : Value}, us[i]? = some u → ∃ w, ws[i]? = some w ∧ RelV w u := by
  induction h with
  | nil => intro i u e; simp at e
  | cons r t ih =>
    intro i u e
    cases i with
    | zero => simp at e; subst e; exact ⟨_, rfl, r⟩
    | succ i => simp at e; obtain ⟨w, h1, h2⟩ := ih e; exact ⟨w, by simpa using h1, h2⟩
section
variable {X : Cx}
def rMinI (K : PySem.W.Frag) : List V → Hp → VK → Prop := fun vs H Q => ∃ (a : Addr) (ws : List V) (l : List Int) (ls : List (List Int)), vs = [V.ref a] ∧ SqL K H a ws ∧ DpAll K H ws ((l :: ls).map tpI) ∧
  ∀ (i : Nat) (w : V), ws[i]? = some w → (l :: ls)[i]? = some (lexI l ls) → Q w H
theorem cr_minI (hc : X.calm = true) (hu : X.A.units + 65 < cLine) : CallR X (.builtin "min") (rMinI X.K) := by
  intro pins s σ H vs us Q I r h
  obtain ⟨a, ws, l, ls, rfl, hs, hd, q⟩ := h
  obtain ⟨its, rv, hl, _⟩ := I.list hs
  rw [Vals.ref1 r]
  obtain ⟨as, hr⟩ := Dp.readsAll I _ ws its hd rv
  have hr' : ReadsAll s.heap its.toArray.toList ((l :: ls).map tpI) as := hr
  have hn : its.toArray.size = ls.length + 1 := by have := PySem.W.readsAll_len hr'; simpa using this
  have hdp := depth_tpIs (l :: ls)
  refine call_min_walkH (PySem.W.iter_listW (A := X.A.in1) (I.ok.hd hc) hl.isList fun s₂ e W st hfp hw hk => ?_)
  refine ⟨_, _, _, _, _, _, _, s.heap, _, rfl, W, st, hfp, by omega, hw, hk, PySem.W.cmpIn_lt (A := X.A.in1) hr' (alikeAll_tpI _) (by show X.A.units + 1 + _ < _; omega), fun v s' hP m => ?_⟩
  obtain ⟨h', tk, rfl, hk'⟩ := PySem.W.moved_old e rfl m
  have e1 : its.toArray.size - 1 = (ls.map tpI).length := by rw [hn]; simp
  rw [e1] at hP
  have e2 := (PySem.W.argBest_fold PySem.W.dataLt PyData.none (tpI l) (ls.map tpI) (ls.map tpI).length (Nat.le_refl _))
  obtain ⟨e3, e2⟩ := e2
  rw [List.take_length] at e2
  have e4 := minD_tpI l ls
  unfold PySem.W.minD at e4
  rw [e4] at e2
  rw [List.map_cons] at hP
  generalize argBest (fun i j => PySem.W.dataLt ((tpI l :: ls.map tpI).getD i PyData.none) ((tpI l :: ls.map tpI).getD j PyData.none)) (ls.map tpI).length = i at hP e2 e3
  have hv : its[i]? = some v := by simpa using hP
  obtain ⟨w, hw1, hw2⟩ := Vals.at rv hv
  have hi : i < (l :: ls).length := by rw [List.length_map] at e3; simp; omega
  refine ⟨w, H, I.kept hk', hw2, q i w hw1 ?_⟩
  have e5 : (tpI l :: ls.map tpI).getD i PyData.none = tpI ((l :: ls)[i]) := by
    rw [← List.map_cons, List.getD_eq_getElem?_getD, List.getElem?_map, List.getElem?_eq_getElem hi]
    rfl
  rw [e5] at e2
  rw [List.getElem?_eq_getElem hi, tpI_inj e2]
end
end L2
namespace EG
open PySem L2
def tupsD : List D → Option (List (List Int))
  | [] => some []
  | .tup x :: r => match intsD x, tupsD r with
    | some l, some ls => some (l :: ls)
    | _, _ => none
  | _ => none
def minTD : List D → EM D
  | [d] => bindE (lstE d) fun xs => optE (match tupsD xs with
    | some (l :: ls) => some (.tup ((lexI l ls).map .int))
    | _ => none)
  | _ => failE
variable {W : Wd} {S : Ws} {H : Hp}
theorem lay_ints : ∀ {x : List D} {l : List Int}, intsD x = some l → layAll x = some (l.map .int) ∧ x = l.map .int
  | [], _, e => by cases e; exact ⟨by unfold layAll; rfl, rfl⟩
  | d :: r, _, e => by
    cases d with
    | int b =>
      obtain ⟨q, hq, rfl⟩ := map_some e
      obtain ⟨h1, h2⟩ := lay_ints hq
      refine ⟨?_, by rw [h2]; rfl⟩
      unfold layAll
      rw [h1]
      unfold layD
      rfl
    | _ => cases e
theorem lay_tups : ∀ {x : List D} {ls : List (List Int)}, tupsD x = some ls → layAll x = some (ls.map tpI) ∧ x = ls.map fun l => .tup (l.map .int)
  | [], _, e => by cases e; exact ⟨by unfold layAll; rfl, rfl⟩
  | d :: r, _, e => by
    cases d with
    | tup b =>
      unfold tupsD at e
      split at e
      · rename_i l ls h1 h2
        cases e
        obtain ⟨a1, a2⟩ := lay_ints h1
        obtain ⟨b1, b2⟩ := lay_tups h2
        refine ⟨?_, by rw [b2, a2]; rfl⟩
        unfold layAll
        rw [b1]
        unfold layD
        rw [a1]
        rfl
      · cases e
    | _ => cases e
theorem cs_minT : CallSpec W (rMinI W.K) minTD := by
  intro vs ds S H μ res σ Wx Q hS r hf hk
  unfold minTD at hf
  split at hf
  · obtain ⟨v, rfl, rv⟩ := r.one
    obtain ⟨xs, e, hf⟩ := lstE_now hf
    obtain ⟨z, hz, rfl⟩ := optE_some hf
    obtain ⟨a, ws, rfl, h1, h2, h3⟩ := lstD_rep hS rv e
    split at hz
    · rename_i l ls hb
      cases hz
      obtain ⟨a1, a2⟩ := lay_tups hb
      obtain ⟨b1, _⟩ := lay_dps h3 a1
      refine ⟨a, ws, l, ls, rfl, SqL.of h1, b1, fun i w hw hi => ?_⟩
      obtain ⟨d, hd, hr⟩ := h3.get' hw
      rw [a2, List.getElem?_map, hi] at hd
      cases hd
      exact hk.val hS hr
    · cases hz
  · cases hf
end EG
namespace EG
open PySem PySem.HandSPX PySem.Builtin PySem.Builtin.ObjectAttr
section
variable {M : Model} {prog : Program} {w : World} {A : Around} {E : Value → Shared → Prop} {R : Result → Shared → Prop} {h : Heap} {g : Array GenState} {d : Drawn} {t : Nat} {os : OsState}
variable {nm q : Str} {C N : Addr} {bs bm bmB : List Value} {hdct : Bool} {sn : List Str} {sub : List Value} {ab : Bool} {col : Option Bool} {dd : Option Addr} {k0 k1 k2 k3 k5 : Option Value} {B newId initId : String}
theorem check_type_call_kw {kw : List (Str × Value)} {Q : Unit → Shared → Prop} (hC : h.get? C = some (excClassObj nm q C N bs bm hdct sn sub ab col dd k0 k1 k2 k3 k5 newId))
    (hq : Q () ⟨h, g, d, t, os⟩) : wpAny M A (checkBuiltinCall "type.__call__" ⟨[.ref C], kw⟩) Q E ⟨h, g, d, t, os⟩ := by
  have f3 := tc_sub
  have hT : (⟨h, g, d, t, os⟩ : Shared).TypeIs (.ref C) "type" := ⟨_, hC, rfl⟩
  simp only [checkBuiltinCall, tc_kind, tc_split]
  repeat (any_goals (first | assumption | with_reducible refine wpAny_loadPart_at hC ?_ | with_reducible refine wpAny_onRaise ?_ | with_reducible refine wpAny_map ?_ | wp_step))
theorem check_new_kw (F : ExcBaseFacts B newId initId bmB) (hT : ∀ X : String, bm.contains (.type X) = bmB.contains (.type X)) {kw : List (Str × Value)} {Q : Unit → Shared → Prop}
    (hC : h.get? C = some (excClassObj nm q C N bs bm hdct sn sub ab col dd k0 k1 k2 k3 k5 newId)) (hq : Q () ⟨h, g, d, t, os⟩) : wpAny M A (checkBuiltinCall newId ⟨[.ref C], kw⟩) Q E ⟨h, g, d, t, os⟩ := by
  have hcont : (Value.ref C :: bm).contains (.type B) = true := by rw [List.contains_cons, hT, F.hasB, Bool.or_true]
  have hstar := F.noStar
  simp only [checkBuiltinCall, F.newKind, F.newSplit, F.newRow]
  repeat (first | refine wpAny_loadPart_at hC ?_ | (refine wpAny_isSubtype_exc hC ?_; rw [hcont]) | refine wpAny_staticBase_exc hC ?_ | refine wpAny_madeBy_exc hC ?_ | simp only [bne_self_eq_false, Bool.false_eq_true, if_false] | wp_step)
  exact hq
theorem new_kw (F : ExcBaseFacts B newId initId bmB) (hT : ∀ X : String, bm.contains (.type X) = bmB.contains (.type X)) {kw : List (Str × Value)}
    (hC : h.get? C = some (excClassObj nm q C N bs bm hdct sn sub ab col dd k0 k1 k2 k3 k5 newId))
    (hq : R (.ok (.ret (.ref (h.objs.size + 1)))) ⟨(h.push { cls := .type "tuple", data := .seq #[] }).push
      { cls := .ref C, data := .fields #[.ref h.objs.size, .none, .none, .none, .bool false, .none] }, g, d, t, os⟩) :
    codeAny (model prog w) A (.builtin newId ⟨[.ref C], kw⟩) R ⟨h, g, d, t, os⟩ := by
  have hends := F.ends
  have hcB : (Value.ref C :: bm).contains (.type B) = true := by rw [List.contains_cons, hT, F.hasB, Bool.or_true]
  have hcA : (Value.ref C :: bm).contains (.type "AttributeError") = false := by rw [List.contains_cons, hT, F.noAttr]; rfl
  have hcN : (Value.ref C :: bm).contains (.type "NameError") = false := by rw [List.contains_cons, hT, F.noName]; rfl
  refine codeAny_builtinAt F.entry ?_
  unfold Builtin.«BaseException.__new__»
  refine wpAt_bind ?_
  show wpAt _ _ _ (stack >>= _) _ _ _
  refine wpAt_bind (wpAt_stack fun p below => wpAt_of_wpAny ?_)
  wp_walk
  refine wpAt_of_wpAny ?_
  rw [F.owner]
  repeat (first | with_reducible refine wpAny_madeHere_exc F.canon hC ?_ | with_reducible refine wpAny_loadPart_at hC ?_ | (with_reducible refine wpAny_isSubtype_exc hC ?_; first | rw [hcB] | rw [hcA] | rw [hcN]) | wp_step)
  show R _ _
  rw [Heap.size_push]
  exact hq
theorem type_call_kw (F : ExcBaseFacts B newId initId bmB) (hT : ∀ X : String, bm.contains (.type X) = bmB.contains (.type X)) {kw : List (Str × Value)} {fI : Addr} {Q : Fin → Shared → Prop}
    (hC : h.get? C = some (excClassObj nm q C N bs bm hdct sn sub ab col dd k0 k1 k2 k3 k5 newId))
    (hi : W.Looks (model prog w) h (typeLookup (.ref C) "__init__") (some (.ref fI))) (hb : ∀ self, W.Looks (model prog w) h (bindSpecial (.ref fI) self) (.ref fI, [self]))
    (hq : codeAny (model prog w) A (.call (.ref fI) ⟨[.ref (h.objs.size + 1)], kw⟩)
      (fun r s' => match r with | .ok (.ret v) => v = .none ∧ Q (.done (.ret (.ref (h.objs.size + 1)))) s' | .ok _ => False | .error e => E e s')
      ⟨(h.push (W.kdv_tup [])).push (excO C h.objs.size), g, d, t, os⟩) :
    wpAny (model prog w) A (Builtin.«type.__call__» ⟨[.ref C], kw⟩) Q E ⟨h, g, d, t, os⟩ := by
  repeat (first | with_reducible refine wpAny_loadPart_at hC ?_ | with_reducible refine wpAny_madeBy_exc hC ?_ | wp_step)
  refine codeAny_call_builtin_code (Code.quiet_builtin _ F.quiet) (check_new_kw F hT hC ?_)
  refine new_kw F hT hC ?_
  show wpAny _ _ _ _ _ _
  have k : ∀ b o, h.get? b = some o → ((h.push (W.kdv_tup [])).push (excO C h.objs.size)).get? b = some o := fun b o e => Heap.get?_push_of_some _ (Heap.get?_push_of_some _ e)
  have hC₁ := k _ _ hC
  have hget : ((h.push (W.kdv_tup [])).push (excO C h.objs.size)).get? (h.objs.size + 1) = some (excO C h.objs.size) := by heap_get
  have hcC : (Value.ref C :: bm).contains (.ref C) = true := by simp
  have i1 := hi.keeps k
  have b1 := (hb (.ref (h.objs.size + 1))).keeps k
  unfold isInstance
  repeat (first | with_reducible refine wpAny_loadPart_at hget ?_ | (with_reducible refine wpAny_isSubtype_exc hC₁ ?_; rw [hcC]) | wp_step)
  show wpAny _ _ (typeLookup (.ref C) _) _ _ _
  refine i1.at ?_
  refine wpAny_holding (wpAny_bind (b1.at ?_))
  refine wpAny_bind (wpAny_call (codeAny_mono hq fun r s' z => ?_))
  rcases r with e | (v | _ | _ | _) <;> first | exact z | exact z.elim | skip
  obtain ⟨rfl, z⟩ := z
  first
    | exact wpAny_pure (wpAny_pure z)
    | (wp_walk; exact z)
theorem call_kw (F : ExcBaseFacts B newId initId bmB) (hT : ∀ X : String, bm.contains (.type X) = bmB.contains (.type X)) {kw : List (Str × Value)} {fI : Addr}
    (hC : h.get? C = some (excClassObj nm q C N bs bm hdct sn sub ab col dd k0 k1 k2 k3 k5 newId))
    (hi : W.Looks (model prog w) h (typeLookup (.ref C) "__init__") (some (.ref fI))) (hb : ∀ self, W.Looks (model prog w) h (bindSpecial (.ref fI) self) (.ref fI, [self]))
    (hq : codeAny (model prog w) (A.under (.builtin "type.__call__" ⟨[.ref C], kw⟩)) (.call (.ref fI) ⟨[.ref (h.objs.size + 1)], kw⟩) (W.InitBack (h.objs.size + 1) R)
      ⟨(h.push (W.kdv_tup [])).push (excO C h.objs.size), g, d, t, os⟩) :
    codeAny (model prog w) A (.call (.ref C) ⟨[], kw⟩) R ⟨h, g, d, t, os⟩ := by
  have f1 := tc_lookup
  have f2 := tc_bind (.ref C)
  have hTy : (⟨h, g, d, t, os⟩ : Shared).TypeIs (.ref C) "type" := ⟨_, hC, rfl⟩
  refine codeAny_of_tree ?_
  show wpAny _ _ (callAny (.ref C) _) _ _ _
  repeat (any_goals (first | assumption | with_reducible refine wpAny_loadPart_at hC ?_ | wp_step))
  refine ⟨rfl, ?_⟩
  refine codeAny_call_builtin_at (Code.quiet_builtin _ (by decide +kernel)) entry_typeCall (check_type_call_kw hC (type_call_kw F hT hC hi hb ?_))
  refine codeAny_mono hq fun r s' z => ?_
  rcases r with e | (v | _ | _ | _) <;> exact z
end
end EG
namespace EG
open PySem PySem.Spec PySem.Calls PyProof.Rows L2 PySem.W
section
variable {X : Cx} {B newId initId : String} {bm : List Value} {C fI : Addr} {D : ExFn}
/-- C is called with keywords -/
theorem exI_callK {pins : List (Addr × Obj)} {σ : L2.St} {H1 : Hp} {s1 : Shared} {us : List Value} {vs : List V} {QQ : Value → Shared → Prop} (XB : ExB B newId initId bm) (F : ExI X.K X.prog B newId initId bm C fI D) (mgs : X.mg "super" = none) (hr : L2H.RoomH 1 X.A) (I1 : Inv X pins σ H1 s1) (r1 : Vals vs us) {kw : List (Str × Value)} (hbk : ∀ (x : Addr) (name : Str) (kV doc pm : Value) (an : Option Addr) (cdv ct : Value) (cl : List (Str × Addr)), bindArgs (fnX name D.qual D.params D.body D.scope cl .none kV doc pm an cdv ct) ⟨[.ref x], kw⟩ = pure (D.ps.zip (Value.ref x :: us))) (hl : vs.length + 1 = D.ps.length) (hz : vs.length ≤ 1000)
    (hq : ∀ (h' : Heap) (tk : Nat) (G : Heap) (dx e t1 : Addr), Inv X pins σ (upd H1 dx (.xd (exFs D vs))) { s1 with heap := G, toks := tk } → (∀ b o, G.get? b = some o → h'.get? b = some o) → G.get? e = none → h'.get? e = some { cls := .ref C, dict := some dx, data := .fields #[.ref t1, .none, .none, .none, .bool false, .none] } →
      upd H1 dx (.xd (exFs D vs)) e = none → H1 dx = none → dx ≠ e → (∀ b o, b ≠ e → h'.get? b = some o → G.get? b = some o) → QQ (.ref e) { s1 with heap := h', toks := tk }) :
    wpAny (model X.prog X.w) X.A (call (.ref C) [] kw) QQ X.xe s1 := by
  obtain ⟨nm, N', qn, bs, bmC, hdct, sn, sub, ab, col, dd, k0, k1, k2, k3, k5, hC, hT⟩ := PySem.W.excInit_of I1.kIn F.init
  obtain ⟨mb, hmb, hbb⟩ := I1.mod.blt
  have kIn := I1.kIn
  have Gm := I1.mod.glob.keeps I1.bk
  have Bm := hmb.keeps I1.bk
  have lim := I1.nolimit
  have hus : us.length ≤ sizeLine := by rw [← Paired.length r1, sizeLine_eq]; omega
  obtain ⟨hp, g, dr, tk, os⟩ := s1
  have hsz : hp.objs.size ≤ hp.objs.size + 1 := Nat.le_succ _
  have kk : ∀ b o, hp.get? b = some o → ((hp.push (PySem.W.kdv_tup [])).push (PySem.HandSPX.excO C hp.objs.size)).get? b = some o := fun b o e => Heap.get?_push_of_some _ (Heap.get?_push_of_some _ e)
  have hget : ((hp.push (PySem.W.kdv_tup [])).push (PySem.HandSPX.excO C hp.objs.size)).get? (hp.objs.size + 1) = some (PySem.HandSPX.excO C hp.objs.size) := by heap_get
  have hnone : hp.get? (hp.objs.size + 1) = none := Heap.get?_none_of_le hsz
  refine wpAny_call (call_kw XB.fb hT hC (PySem.W.looks_findIn kIn F.iC) (fun self => PySem.W.bind_fn kIn self F.tI) ?_)
  refine init_runA XB F (kIn.keeps kk) (Gm.keeps kk) (Bm.keeps kk) mgs ((hbb _ (by decide)).trans (by decide +kernel)) (lim.keeps kk) (by have := hr.dp; rw [L2.make_depth]; omega) hget ?_ (fun _ _ _ _ _ _ _ _ => hbk _ _ _ _ _ _ _ _ _) (by rw [List.length_cons, ← Paired.length r1]; exact hl) fun h' tk' dx t1 tk1 kx dge he ns => ?_
  · cases e : X.K.lookup (hp.objs.size + 1) with
    | none => rfl
    | some o => have := kIn _ _ e; rw [hnone] at this; cases this
  · have dne : dx ≠ hp.objs.size + 1 := fun z => by
      obtain ⟨o, es, ep, e1, e2, _⟩ := ns
      rw [z, he] at e1
      have e1 := Option.some.inj e1
      subst e1
      cases e2
    obtain ⟨G, g1, g2⟩ := restrict h' fun b => decide (b ≠ hp.objs.size + 1)
    have gk : ∀ b, b ≠ hp.objs.size + 1 → G.get? b = h'.get? b := fun b hb => g1 b (decide_eq_true hb)
    have ge : G.get? (hp.objs.size + 1) = none := g2 _ (by simp)
    have nlt : ∀ b o, hp.get? b = some o → b ≠ hp.objs.size + 1 := fun b o e => Nat.ne_of_lt (Nat.lt_succ_of_lt (Heap.lt_size e))
    have dn : hp.get? dx = none := Heap.get?_none_of_le (Nat.le_trans (by rw [Heap.size_push, Heap.size_push]; omega) dge)
    have hd1 : H1 dx = none := I1.hok.fresh (Nat.le_trans (by show hp.objs.size ≤ _; rw [Heap.size_push, Heap.size_push]; omega) dge)
    have hne : H1 (hp.objs.size + 1) = none := I1.hok.fresh hsz
    have J : Inv X pins σ (upd H1 dx (.xd (exFs D vs))) { (⟨hp, g, dr, tk, os⟩ : Shared) with heap := G, toks := tk' } :=
      I1.laidN (fun b u e => by rw [gk b (nlt b u e)]; exact kx b u (nlt b u e) (kk b u e)) dn hd1 ⟨_, ns.at fun o e => (gk dx dne).trans e, exFs_rel r1⟩
    refine ⟨rfl, hq h' tk' G dx (hp.objs.size + 1) t1 J (fun b o e => ?_) ge he (by rw [upd_ne (Ne.symm dne)]; exact hne) hd1 dne fun b o hb e => by rw [gk b hb]; exact e⟩
    by_cases hb : b = hp.objs.size + 1
    · rw [hb, ge] at e; cases e
    · rw [← gk b hb]; exact e
/-- a new exception as a value -/
def tMkV (C : Addr) (D : ExFn) (ta : TA) : TE := fun σ H Q => ta σ H fun vs H1 => vs.length + 1 = D.ps.length ∧ vs.length ≤ 1000 ∧ ∀ a d, H1 a = none → H1 d = none → d ≠ a → Q (.ref a) (upd (upd H1 d (.xd (exFs D vs))) a (XdO (.ref C) d a))
theorem mkV_end {pins : List (Addr × Obj)} {σ : L2.St} {H1 : Hp} {s1 : Shared} {us : List Value} {vs : List V} {Q : VK} (XB : ExB B newId initId bm) (F : ExI X.K X.prog B newId initId bm C fI D) (mgs : X.mg "super" = none) (hr : L2H.RoomH 1 X.A) (I1 : Inv X pins σ H1 s1) (r1 : Vals vs us)
    (h : vs.length + 1 = D.ps.length ∧ vs.length ≤ 1000 ∧ ∀ a d, H1 a = none → H1 d = none → d ≠ a → Q (.ref a) (upd (upd H1 d (.xd (exFs D vs))) a (XdO (.ref C) d a))) : wpAny (model X.prog X.w) X.A (call (.ref C) us) (EP X pins σ Q) X.xe s1 := by
  obtain ⟨hl, hz, q⟩ := h
  refine exI_call XB F mgs hr I1 r1 hl hz fun h' tk G dx e t1 J kG ge he na hd dne kb => ?_
  have ne : H1 e = none := by rw [upd_ne (Ne.symm dne)] at na; exact na
  exact ⟨.ref e, _, J.laidN kG ge na (xdO_ok he rfl rfl rfl), rfl, q e dx ne hd dne⟩
theorem mkV_endK {pins : List (Addr × Obj)} {σ : L2.St} {H1 : Hp} {s1 : Shared} {us : List Value} {vs : List V} {Q : VK} {kw : List (Str × Value)} (XB : ExB B newId initId bm) (F : ExI X.K X.prog B newId initId bm C fI D) (mgs : X.mg "super" = none) (hr : L2H.RoomH 1 X.A) (I1 : Inv X pins σ H1 s1) (r1 : Vals vs us)
    (hbk : ∀ (x : Addr) (name : Str) (kV doc pm : Value) (an : Option Addr) (cdv ct : Value) (cl : List (Str × Addr)), bindArgs (fnX name D.qual D.params D.body D.scope cl .none kV doc pm an cdv ct) ⟨[.ref x], kw⟩ = pure (D.ps.zip (Value.ref x :: us)))
    (h : vs.length + 1 = D.ps.length ∧ vs.length ≤ 1000 ∧ ∀ a d, H1 a = none → H1 d = none → d ≠ a → Q (.ref a) (upd (upd H1 d (.xd (exFs D vs))) a (XdO (.ref C) d a))) : wpAny (model X.prog X.w) X.A (call (.ref C) [] kw) (EP X pins σ Q) X.xe s1 := by
  obtain ⟨hl, hz, q⟩ := h
  refine exI_callK XB F mgs hr I1 r1 hbk hl hz fun h' tk G dx e t1 J kG ge he na hd dne kb => ?_
  have ne : H1 e = none := by rw [upd_ne (Ne.symm dne)] at na; exact na
  exact ⟨.ref e, _, J.laidN kG ge na (xdO_ok he rfl rfl rfl), rfl, q e dx ne hd dne⟩
variable {x : Str} {p pos : Pos} {e : Expr} {es : List Expr} {ta : TA} {kws : List Keyword} {k : Str}
theorem pe_mkV (XB : ExB B newId initId bm) (F : ExI X.K X.prog B newId initId bm C fI D) (mgs : X.mg "super" = none) (hr : L2H.RoomH 1 X.A) (hg : Gl X x) (hm : X.mg x = some (.ref C)) (ha : PA X (e :: es) ta) (hdb : (x == ("__debug__" : Str)) = false)
    (he : starEach (e :: es) X.env = (false, eval e X.env) :: starEach es X.env) (hpl : (backTo pos (starEach es X.env)).any (·.1) = false) : PE X (.Call (.Name x p) (e :: es) [] pos) (tMkV C D ta) := by
  refine ⟨fun pins s σ H Q I h => ?_⟩
  refine wpAny_Call_Name_kw (ld_glob I hg hm ?_ hdb)
  exact PySem.W.callWith_K (h₀ := X.base) I.ok.mod.kin F.kp (thn (ha.run pos pins s σ H _ I h) fun us s1 ⟨vs, H1, I1, r1, q1⟩ => ⟨I1.kIn, mkV_end XB F mgs hr I1 r1 q1⟩) he hpl
theorem pe_mkV0 (XB : ExB B newId initId bm) (F : ExI X.K X.prog B newId initId bm C fI D) (mgs : X.mg "super" = none) (hr : L2H.RoomH 1 X.A) (hg : Gl X x) (hm : X.mg x = some (.ref C)) (hdb : (x == ("__debug__" : Str)) = false) : PE X (.Call (.Name x p) [] [] pos) (tMkV C D tNil) := by
  refine ⟨fun pins s σ H Q I h => ?_⟩
  refine wpAny_Call_Name_kw (ld_glob I hg hm ?_ hdb)
  exact PySem.W.callWith_K0 I.kIn F.kp (mkV_end XB F mgs hr I .nil h)
/-- C(k = e), k the start's own parameter -/
theorem pe_mkVK (XB : ExB B newId initId bm) (F : ExI X.K X.prog B newId initId bm C fI D) (mgs : X.mg "super" = none) (hr : L2H.RoomH 1 X.A) (hg : Gl X x) (hm : X.mg x = some (.ref C)) (hdb : (x == ("__debug__" : Str)) = false)
    (hbk : ∀ (x : Addr) (u : Value) (name : Str) (kV doc pm : Value) (an : Option Addr) (cdv ct : Value) (cl : List (Str × Addr)), bindArgs (fnX name D.qual D.params D.body D.scope cl .none kV doc pm an cdv ct) ⟨[.ref x], [(k, u)]⟩ = pure (D.ps.zip [Value.ref x, u]))
    {tk : TA} (hps : D.ps.length = 2) (hkw : PK X kws tk) (hall : (backToKw pos (keywordEach kws X.env)).all (·.1.isSome) = true) (hks : (backToKw pos (keywordEach kws X.env)).filterMap (·.1) = [k])
    (hpl : ((backTo pos (starEach [] X.env)).any (·.1) || (backToKw pos (keywordEach kws X.env)).any (·.1.isNone)) = false) : PE X (.Call (.Name x p) [] kws pos) (tMkV C D tk) := by
  refine ⟨fun pins s σ H Q I h => ?_⟩
  refine wpAny_Call_Name_kw (ld_glob I hg hm ?_ hdb)
  refine PySem.W.callWith_KW0 (h₀ := X.base) I.ok.mod.kin F.kp hall ?_ hpl
  refine thn (hkw.run pos pins s σ H _ I h) fun ws s2 ⟨zs, H2, I2, rz, q2⟩ => ⟨I2.kIn, ?_⟩
  rw [hks]
  have l1 : zs.length = 1 := by have := q2.1; omega
  have lw : ws.length = 1 := rz.length.symm.trans l1
  match ws, lw with
  | [w], _ => exact mkV_endK (kw := [(k, w)]) XB F mgs hr I2 rz (fun x => hbk x w) q2
end
end EG
namespace EG
/-! by data -/
open PySem PySem.Spec PyProof.Rows L2
theorem boot_VE : bootBuiltins (Str.ofString "ValueError") = some (.type "ValueError") := by decide +kernel
theorem boot_LE : bootBuiltins (Str.ofString "LookupError") = some (.type "LookupError") := by decide +kernel
/-- C(..) as a value -/
def fMkV (g : GX) (f : Env → EM (List D)) : Env → EM D := fun env => bindE (f env) fun ds => guardE (decide (ds.length = (if g.fld.isSome then 1 else 0))) (pureE (.err g.cls (exD g.code g.fld ds)))
/-- isinstance(e, C), e an exception -/
def isxE (T : Isi) (xt : Xtab) (cs : List Tag) (d : D) : EM D := match d with
  | .err k _ => guardE (xt.contains (k, ("code" : Str))) (optE ((isiAny T (.ex k) cs).map D.bl))
  | _ => failE
def fIsX (T : Isi) (xt : Xtab) (cs : List Tag) (f : Env → EM D) : Env → EM D := fun env => bindE (f env) (isxE T xt cs)
/-- isinstance(e, c), e an exception held as a value -/
def rIsX (K : PySem.W.Frag) : List V → Hp → VK → Prop := fun xs H Q => ∃ (a C dd : Addr) (fs : List (Str × V)) (c : V) (u : Value) (b : Bool), xs = [.ref a, c] ∧ ClsV c u ∧ H a = some (XdO (.ref C) dd a) ∧ H dd = some (.xd fs) ∧ ExcC K C ∧ PySem.W.kitOne K (.ref C) u = some b ∧ Q (.bl b) H
theorem call_isX {X : Cx} : CallR X (.builtin "isinstance") (rIsX X.K) := by
  intro pins s σ H xs us Q I r h
  obtain ⟨a, C, dd, fs, c, u, b, rfl, k, ha, hd, E, e, q⟩ := h
  obtain ⟨u1, u2, rfl, r1, r2⟩ := vals2 r
  have e2 := k.eq r2
  subst e2
  cases (show u1 = Value.ref a from r1)
  have hz : ObjOk X.prog X.w H s.heap a (XdO (.ref C) dd a) := I.hok a _ ha
  obtain ⟨⟨oe, vs, g1, g2, g3, g4⟩, _, _⟩ := hz
  have hx : ObjOk X.prog X.w H s.heap dd (.xd fs) := I.hok dd _ hd
  obtain ⟨mA, hns, hr⟩ := hx
  obtain ⟨od, ho, hl⟩ := lookIn_ns hns
  have J : PySem.W.InstAt s.heap a oe C (some od) := ⟨g1, g2, by unfold PySem.W.notCls; rw [g4] <;> rfl, by rw [g3]; exact ho⟩
  have hcl : (PySem.W.clsIn X.K C).isSome = true := by
    obtain ⟨cd, hc, _⟩ := PySem.W.any_some E.hd
    rw [hc]; rfl
  exact PySem.W.kia_one (PySem.W.kitx_exc hcl E.hg E.hk E.hs E.ha E.hn E.ht E.hm) I.kIn J e (fun z => nomatch z) fun tk => ⟨.bl b, H, I.tok tk, rfl, q⟩
section
variable {W : Wd} {S S' S1 : Ws} {H H' H1 : Hp} {σ : L2.St} {env : Env} {μ : Mu} {Wx : WX} {X : Cx} {T : Isi} {xt : Xtab}
theorem ev_isX (hK : X.K = W.K) (hT : IsiOk W T) (hxt : XtOk W xt) {a cls : Expr} {p pos : Pos} {c : Tag} {f : Env → EM D} (hg : Gl X "isinstance") (hm : X.mg "isinstance" = none) (ha : PE X a (tEv W Wx f)) (hc : PE X cls (tC (tagC W c)))
    (h1 : starEach [a, cls] X.env = (false, eval a X.env) :: starEach [cls] X.env) (h2 : starEach [cls] X.env = [(false, eval cls X.env)]) : PE X (.Call (.Name "isinstance" p) [a, cls] [] pos) (tEv W Wx (fIsX T xt [c] f)) := by
  refine PE.imp (pe_callB call_isX hg hm PyProof.Rows.boot_isinstance (pa_cons ha (pa_cons hc pa_nil h2) h1) (he := h1) (hpl := by rw [h2]; rfl)) fun σ H Q ⟨S, μ, env, res, hS, hE, hf, hk⟩ => ?_
  refine tG.bind hS hE hf hk fun d μ1 S1 H1 l1 g1 e1 hf1 hk1 v rv => ?_
  cases d with
  | err k fs =>
    obtain ⟨hcn, hf1⟩ := guardE_some hf1
    obtain ⟨d, e2, rfl⟩ := optE_some hf1
    obtain ⟨a, dd, vs, rfl, q1, q2, q3⟩ := rv.errE
    obtain ⟨_, _, t3⟩ := hxt k "code" (by simpa using hcn)
    cases z : isiAny T (.ex k) [c] with
    | none => rw [z] at e2; cases e2
    | some b =>
      rw [z] at e2
      cases e2
      refine ⟨a, W.ca k, dd, vs, tagC W c, tagV W c, b, rfl, clsV_of W c, q1, q2, by rw [hK]; exact t3, ?_, hk1.val g1 (.bl b)⟩
      rw [hK]
      have := isiAny_ok hT z
      simp only [List.map_cons, List.map_nil, PySem.W.kitAny] at this
      have e3 : tagV W (.ex k) = .ref (W.ca k) := rfl
      rw [e3] at this
      cases z2 : PySem.W.kitOne W.K (.ref (W.ca k)) (tagV W c) with
      | none => rw [z2] at this; cases this
      | some b' => rw [z2] at this; cases b' <;> exact this
  | _ => cases hf1
theorem ev_mkVG {g : GX} {T : ExFn} {ta : TA} {e : Expr} {f : Env → EM (List D)} (hp : PE X e (tMkV (W.ca g.cls) T ta)) (hta : ∀ σ H Q, tEvs W Wx f σ H Q → ta σ H Q)
    (h1 : T.code = g.code) (h2 : T.fld.map (·.1) = g.fld) (hb : g.code.length ≤ big) : PE X e (tEv W Wx (fMkV g f)) :=
  PE.imp hp fun σ H Q ⟨S, μ, env, res, hS, hE, hf, hk⟩ => by
    refine hta _ _ _ (tG.bind hS hE hf hk fun ds μ1 S1 H1 l1 g1 e1 hf1 hk1 vs rvs => ?_)
    obtain ⟨hl, hf1⟩ := guardE_some hf1
    have hl := of_decide_eq_true hl
    cases hf1
    have hlen : vs.length = (if g.fld.isSome then 1 else 0) := rvs.length.trans hl
    refine ⟨?_, ?_, fun a d na nd hne => ?_⟩
    · rw [hlen, ← h2]
      unfold ExFn.ps
      cases T.fld <;> rfl
    · rw [hlen]; split <;> omega
    · have lt : LtE S1 H1 S1 (upd H1 d (.xd (exFs T vs))) := lt_upd nd g1.wf
      have g2 := g1.upd (o := .xd (exFs T vs)) nd
      have na2 : upd H1 d (.xd (exFs T vs)) a = none := by rw [upd_ne (Ne.symm hne)]; exact na
      have lt2 : LtE S1 (upd H1 d (.xd (exFs T vs))) S1 (upd (upd H1 d (.xd (exFs T vs))) a (XdO (.ref (W.ca g.cls)) d a)) := lt_upd na2 g2.wf
      have g3 := g2.upd (o := XdO (.ref (W.ca g.cls)) d a) na2
      exact ((hk1.later lt).later lt2).now g3 (.ref a) (.err upd_same (g1.fresh na) (by rw [upd_ne hne]; exact upd_same) (g1.fresh nd) (((exD_rep rvs h1 h2 hb).later lt).later lt2))
theorem ev_mkX {g : GX} {x : Str} {p pos : Pos} {e : Expr} {es : List Expr} {f : Env → EM (List D)} (hK : X.K = W.K) (G : GXOk W X.prog X.mg g) (hr : Room 1 X.A) (hg : Gl X x) (hn : g.name = x) (ha : PA X (e :: es) (tEvs W Wx f)) (hdb : (x == ("__debug__" : Str)) = false)
    (he : starEach (e :: es) X.env = (false, eval e X.env) :: starEach es X.env) (hpl : (backTo pos (starEach es X.env)).any (·.1) = false) : PE X (.Call (.Name x p) (e :: es) [] pos) (tEv W Wx (fMkV g f)) := by
  obtain ⟨B, newId, initId, bm, fI, T, XB, F, hm, h1, h2, hb, ms, _⟩ := G
  rw [hn] at hm
  rw [← hK] at F
  exact ev_mkVG (pe_mkV XB F ms (L2H.roomH_of hr) hg hm ha hdb he hpl) (fun _ _ _ h => h) h1 h2 hb
theorem ev_mkX0 {g : GX} {x : Str} {p pos : Pos} (hK : X.K = W.K) (G : GXOk W X.prog X.mg g) (hr : Room 1 X.A) (hg : Gl X x) (hn : g.name = x) (hdb : (x == ("__debug__" : Str)) = false) : PE X (.Call (.Name x p) [] [] pos) (tEv W Wx (fMkV g fNil)) := by
  obtain ⟨B, newId, initId, bm, fI, T, XB, F, hm, h1, h2, hb, ms, _⟩ := G
  rw [hn] at hm
  rw [← hK] at F
  exact ev_mkVG (pe_mkV0 XB F ms (L2H.roomH_of hr) hg hm hdb) (fun σ H Q ⟨S, μ, env, res, hS, hE, hf, hk⟩ => by
    cases hf
    exact hk.now hS [] .nil) h1 h2 hb
theorem ev_mkXK {g : GX} {x kn : Str} {p pos kpos : Pos} {e : Expr} {f : Env → EM D} (hK : X.K = W.K) (G : GXOk W X.prog X.mg g) (hr : Room 1 X.A) (hg : Gl X x) (hn : g.name = x) (hk : g.fld = some kn) (ha : PE X e (tEv W Wx f)) (hdb : (x == ("__debug__" : Str)) = false) :
    PE X (.Call (.Name x p) [] [⟨some kn, e, kpos⟩] pos) (tEv W Wx (fMkV g (fCons f fNil))) := by
  obtain ⟨B, newId, initId, bm, fI, T, XB, F, hm, h1, h2, hb, ms, hpp⟩ := G
  rw [hn] at hm
  rw [← hK] at F
  cases hT : T.fld with
  | none => rw [hT, hk] at h2; cases h2
  | some q =>
    have e1 : q.1 = kn := by rw [hT, hk] at h2; exact Option.some.inj h2
    have e2 := hpp q hT
    have hbk := F.bindK q hT
    rw [e2, e1] at hbk
    refine ev_mkVG (pe_mkVK XB F ms (L2H.roomH_of hr) hg hm hdb hbk (by unfold ExFn.ps; rw [hT]; rfl) (ek_cons ha ek_nil) (by rfl) (by rfl) (by rfl)) (fun σ H Q h => h) h1 h2 hb
end
end EG
namespace EG
open PySem L2

/-! side conditions by the syntax -/
def notStar : Expr → Bool
  | .Starred _ _ => false
  | _ => true
theorem starEach_of {e : Expr} {es : List Expr} {env : PySem.Env} (h : notStar e = true) : starEach (e :: es) env = (false, eval e env) :: starEach es env := by
  cases e <;> first | rfl | cases h
theorem noStars {es : List Expr} {env : PySem.Env} {pos : Pos} (h : es.all notStar = true) : (backTo pos (starEach es env)).any (·.1) = false := by
  induction es with
  | nil => rfl
  | cons e es ih =>
    rw [List.all_cons, Bool.and_eq_true] at h
    rw [starEach_of h.1]
    have := ih h.2
    simp only [backTo, List.map_cons, List.any_cons, Bool.false_or] at this ⊢
    exact this
theorem assignEach_of {e : Expr} {es : List Expr} {env : PySem.Env} (h : notStar e = true) : assignEach (e :: es) env = (false, assign e env) :: assignEach es env := by
  cases e <;> first | rfl | cases h
theorem assignEach_len : ∀ {es : List Expr} {env : PySem.Env}, (assignEach es env).length = es.length
  | [], _ => rfl
  | e :: es, env => by cases e <;> simp [assignEach, assignEach_len (es := es)]
theorem assignEach_no {es : List Expr} {env : PySem.Env} (h : es.all notStar = true) : (assignEach es env).findIdx? (·.1) = none := by
  induction es with
  | nil => rfl
  | cons e es ih =>
    rw [List.all_cons, Bool.and_eq_true] at h
    rw [assignEach_of h.1]
    simp [List.findIdx?_cons, ih h.2]
def notComp : Expr → Bool
  | .ListComp .. => false
  | .SetComp .. => false
  | .DictComp .. => false
  | _ => true
theorem swaps_of {e : Expr} {t : Option Expr} {l : Nat} {env : PySem.Env} (h : notComp e = true) : swapsWith e t l env = pure false := by
  cases e <;> first | rfl | cases h
def notTuple : Expr → Bool
  | .Tuple .. => false
  | _ => true
def notTL : Expr → Bool
  | .Tuple .. => false
  | .List .. => false
  | _ => true
theorem swapped_of {t e : Expr} {env : PySem.Env} (h : (notTL t || notTuple e) = true) : swappedStores [t] e env = pure none := by
  cases t <;> cases e <;> first | rfl | simp [notTuple, notTL] at h
def notSet : Expr → Bool
  | .Set .. => false
  | _ => true
theorem folded_of {e : Expr} {env : PySem.Env} (h : notSet e = true) : ∀ x, foldedSetIterable e env x = pure x := by
  cases e <;> first | (intro x; rfl) | cases h
def notSlice : Expr → Bool
  | .Slice .. => false
  | _ => true
theorem plainIx_of {e : Expr} (h : notSlice e = true) : PlainIx e := by
  cases e <;> first | (intro o i; rfl) | cases h
/-- isTrue has no arm of its own -/
def plainT : Expr → Bool
  | .UnaryOp .Not _ _ => false
  | .BoolOp .. => false
  | .IfExp .. => false
  | .Compare .. => false
  | _ => true
theorem plainT_of {e : Expr} {env : PySem.Env} (h : plainT e = true) : ∀ whole, isTrue e env whole = (do let v ← whole; standAt e.pos; holding [v] (truthy v)) := by
  cases e <;> first
    | (intro w; rfl)
    | (cases h; done)
    | (rename_i op x p; cases op <;> first | (intro w; rfl) | cases h)
theorem pt_ifExp {X : Cx} {c a b : Expr} {pos : Pos} {tc ta tb : TT} (hc : PT X c tc) (ha : PT X a ta) (hb : PT X b tb) : PT X (.IfExp c a b pos) (fun σ H Q => tc σ H fun k H1 => if k = true then ta σ H1 Q else tb σ H1 Q) := by
  refine ⟨fun pins s σ H Q I h => ?_⟩
  refine PyProof.Rows.isTrue_IfExp (thn (hc.run pins s σ H _ I h) fun d s1 ⟨H1, I1, q1⟩ => ?_)
  cases d with
  | true => exact ha.run pins s1 σ H1 Q I1 q1
  | false => exact hb.run pins s1 σ H1 Q I1 q1

/-! the small syntax -/
inductive BOp where | add | sub | mul | div | mod | pow
  deriving DecidableEq
inductive COp where | eq | ne | lt | le | gt | ge | isN | notN | in_ | notIn | inP | notInP | inK | notInK
  deriving DecidableEq
inductive Blt where | len | abs | int | str | bool | all | any | sum | max | min | tuple | minT
  deriving DecidableEq
inductive LBlt where | sorted | list
  deriving DecidableEq
mutual
inductive E where
  | v (i : Nat) | non | bl (b : Bool) | int (i : Int) | str (s : Str) | gc (i : Nat)
  | bin (o : BOp) (a b : E) | neg (a : E)
  | cmp (o : COp) (a b : E) | chain (o p : COp) (a b c : E)
  | ban (as : Es) | bor (as : Es) | nt (a : E) | ife (c a b : E)
  | call (f : Nat) (as : Es) | blt (b : Blt) (as : Es) | isi (t : Tag) (a : E) | isiT (ts : List Tag) (a : E)
  | ix (a b : E) | sl (a : E) (lo hi : Oe) | tup (as : Es)
  | lst (as : Es) | lblt (b : LBlt) (as : Es) | lsl (a : E) (lo hi : Oe) | cat (a b : E) | rep (a b : E)
  | comp (own : List (Str × Nat)) (p : Pat) (s : Sr) (c : Oe) (e : E)
  | fld (a : E) (f : Str) | prop (j : Nat) (a : E) | meth (j : Nat) (a : E) (as : Es) | make (j : Nat) (as kws : Es) | eqo (j : Nat) (a b : E)
  | nev | kc (j : Nat) (as kws : Es) | km (j : Nat) (o : E) (as kws : Es) | ks (j : Nat) (as kws : Es) | neo (j : Nat) (a b : E) | o1 (j : Nat) (a : E) | o1t (j : Nat) (a : E) | fs (as : Es)
  | lr1 (a : E) | lr2 (a b : E) | co (j : Nat) (f : E) (as : Es)
  | compz (own : List (Str × Nat)) (p : Pat) (a b : E) (c : Oe) (e : E)
  | nc (a : E) | tupS (as : Es) | lstS (as : Es) | invF (j : Nat) (as kws : Es) | invO (j : Nat) (o : E) (as kws : Es) | invL (j : Nat) (i : Nat) (as kws : Es)
  | lam (n : Nat) | callH (f : Nat) (as : Es) | callZ (f : Nat) (as : Es)
  | inT (neg : Bool) (n : Nat) (a : E) | inO (neg : Bool) (j : Nat) (a b : E) | comp2 (own : List (Str × Nat)) (p : Pat) (s : Sr) (c : Oe) (p1 : Pat) (s1 : Sr) (c1 : Oe) (e : E)
  | rev (a : E) | opA (j : Nat) (a b : E) | cv (j : Nat)
  | ixK (a b : E)
  | compm (own : List (Str × Nat)) (p : Pat) (a : E) (c : Oe) (e : E) | orn (a : E)
  | mkX (j : Nat) (as : Es) | mkXK (j : Nat) (a : E) | xf (a : E) (f : Str) | isX (t : Tag) (a : E)
  | joi (a b : E) | spl (a b : E) | wIn (neg : Bool) (j : Nat) (a : E) | wIx (j : Nat) (a : E) | wGet (j : Nat) (a b : E)
inductive Es where
  | nil | cons (e : E) (r : Es) | star (e : E) (r : Es)
inductive Oe where
  | none | some (e : E)
inductive Sr where
  | seq (e : E) | own (e : E) | rng1 (a : E) | rng2 (a b : E) | str (e : E) | enum (a : E) | zip (a b : E) | zip3 (a b c : E)
end
def notOwn : Sr → Bool
  | .own _ => false
  | _ => true
def Es.len : Es → Nat
  | .nil => 0
  | .cons _ r => r.len + 1
  | .star _ r => r.len + 1

/-- what the text's own names stand for -/
structure GFn where
  name : Str
  n : Nat
  F : Fn
  lvl : Nat
  dds : List D
structure GC where
  name : Str
  d : D
/-- a method, a property's getter, an own __eq__: the class, the name, the def -/
structure GM where
  cls : Nat
  name : Str
  n : Nat
  F : Fn
  lvl : Nat
  dds : List D
/-- C(..): np values by place, keywords ks -/
structure GMk where
  name : Str
  cls : Nat
  fz : Bool
  np : Nat
  ks : List Str
  n : Nat
  F : Fn
  arr : List D → List D → List D
  lvl : Nat
/-- a call with keywords: of a def (name), of a method (cls, name), of a static method (cname, name) -/
structure GK where
  cname : Str
  cls : Nat
  name : Str
  np : Nat
  ks : List Str
  n : Nat
  F : Fn
  arr : List D → List D → List D
  lvl : Nat
structure GO where
  cls : Nat
  k : Own1
  F : Fn
  lvl : Nat
inductive Own2 where | cont | and_
  deriving DecidableEq
def Own2.dunder : Own2 → Str
  | .cont => "__contains__"
  | .and_ => "__and__"
/-- an own operator of two -/
structure GB where
  cls : Nat
  k : Own2
  F : Fn
  lvl : Nat
/-- a constant of a class -/
structure GCv where
  x : Str
  cls : Nat
  f : Str
  d : D
/-- any call: 0 a def, 1 a static method, 2 a classmethod, 3 a class, 4 a method -/
structure GU where
  kind : Nat
  x : Str
  cls : Nat
  m : Str
  fz : Bool
  ks : List Str
  F : FU
  lvl : Nat
structure Gam where
  fns : List GFn
  consts : List GC
  clss : List (Str × Nat)
  frees : List Str
  isi : Isi
  flds : List (Nat × Str) := []
  meths : List GM := []
  props : List GM := []
  makes : List GMk := []
  eqs : List GM := []
  kcs : List GK := []
  kms : List GK := []
  kss : List GK := []
  o1s : List GO := []
  us : List GU := []
  b2s : List GB := []
  cvs : List GCv := []
  wds : List GWd := []
  exs : List GX := []
  xt : Xtab := []
  hfs : List GH := []
  ctch : List (Nat × List Nat) := []
  LF : Nat → List (Str × D) → EM D := fun _ _ => failE
  lamB : Nat → Bool → Arguments → Expr → Scope → Bool := fun _ _ _ _ _ => false
  mkr : Option (List (Str × NameKind)) := none
  cl : List (Str × Addr) := []
  caps : Caps := []
  tabI : Nat := 0
  tabP : Addr := 0
  tabQ : Str := ""
  noT : Bool := false
  hot : Bool := false
  fnsH : List GFn := []
/-- the same without what an exception in a handler wants -/
def Gam.cold (Γ : Gam) : Gam := { Γ with hot := false }

def bopF : BOp → D → D → EM D
  | .add => addD | .sub => subD | .mul => mulD | .div => divD | .mod => modD | .pow => powD
def bopO : BOp → Operator
  | .add => .Add | .sub => .Sub | .mul => .Mult | .div => .FloorDiv | .mod => .Mod | .pow => .Pow
def copF : COp → D → D → EM D
  | .eq => eqDD | .ne => neDD | .lt => cmpI fun i j => decide (i < j) | .le => cmpI fun i j => decide (i ≤ j) | .gt => cmpI fun i j => decide (j < i) | .ge => cmpI fun i j => decide (j ≤ i)
  | .isN => isND | .notN => notND | .in_ => inD | .notIn => notInD | .inP => inPD | .notInP => notInPD | .inK => inKD false | .notInK => inKD true
def copO : COp → CmpOp
  | .eq => .Eq | .ne => .NotEq | .lt => .Lt | .le => .LtE | .gt => .Gt | .ge => .GtE | .isN => .Is | .notN => .IsNot | .in_ => .In | .notIn => .NotIn | .inP => .In | .notInP => .NotIn | .inK => .In | .notInK => .NotIn
def bltF : Blt → List D → EM D
  | .len => lenD | .abs => absD | .int => intD | .str => strD | .bool => boolD | .all => allD | .any => anyD | .sum => sumD | .max => maxD | .min => minD | .tuple => tupleD | .minT => minTD
def bltN : Blt → Str
  | .len => "len" | .abs => "abs" | .int => "int" | .str => "str" | .bool => "bool" | .all => "all" | .any => "any" | .sum => "sum" | .max => "max" | .min => "min" | .tuple => "tuple" | .minT => "min"
def lbltF : LBlt → List D → EM (List D)
  | .sorted => sortedD | .list => listD
def lbltN : LBlt → Str
  | .sorted => "sorted" | .list => "list"
def negD : D → EM D
  | .int i => pureE (.int (-i))
  | _ => failE
def fNeg (f : Env → EM D) : Env → EM D := fun env => bindE (f env) negD

/-- the readings of a piece: as data, borrowed, as a new list, as a test -/
structure Bn where
  e : Env → EM D
  b : Env → EM D
  l : Env → EM (List D)
  t : Env → EM Bool
def notNc : E → Bool
  | .nc _ => false
  | _ => true
def failL : Env → EM (List D) := fun _ => failE
def mkE (f : Env → EM D) : Bn := ⟨f, f, failL, fTru f⟩
def mkL (g : Env → EM (List D)) : Bn := ⟨fD g, fD g, g, fTru (fD g)⟩
structure Bs where
  s : Env → EM (List D)
  b : Env → EM (List D)
  an : Env → EM D
  anT : Env → EM Bool
  or : Env → EM D
  orT : Env → EM Bool
  lone : Option (Env → EM D) := none
def fFail : Env → EM D := fun _ => failE
def fFailT : Env → EM Bool := fun _ => failE
def uOf (nk : Nat) (a k : Bs) : Env → EM (List D × List D) := match a.lone with
  | some f => fLone nk f k.s
  | none => fU nk a.s k.s
noncomputable section
mutual
noncomputable def ev (Γ : Gam) : E → Bn
  | .v i => ⟨fV i, fVB i, failL, fTru (fVB i)⟩
  | .non => mkE (fC .non)
  | .bl b => mkE (fC (.bl b))
  | .int i => mkE (fC (.int i))
  | .str s => mkE (fC (.str s))
  | .gc i => match Γ.consts[i]? with
    | some c => mkE (fC c.d)
    | none => mkE fFail
  | .bin o a b => mkE (fOp2 (bopF o) (ev Γ a).b (ev Γ b).b)
  | .neg a => mkE (fNeg (ev Γ a).b)
  | .cmp o a b => ⟨fOp2 (copF o) (ev Γ a).b (ev Γ b).b, fOp2 (copF o) (ev Γ a).b (ev Γ b).b, failL, fT (fOp2 (copF o) (ev Γ a).b (ev Γ b).b)⟩
  | .chain o p a b c => ⟨fChain (copF o) (copF p) (ev Γ a).b (ev Γ b).b (ev Γ c).b, fChain (copF o) (copF p) (ev Γ a).b (ev Γ b).b (ev Γ c).b, failL, fT (fChain (copF o) (copF p) (ev Γ a).b (ev Γ b).b (ev Γ c).b)⟩
  | .ban as => ⟨(evs Γ as).an, (evs Γ as).an, failL, (evs Γ as).anT⟩
  | .bor as => ⟨(evs Γ as).or, (evs Γ as).or, failL, (evs Γ as).orT⟩
  | .nt a => ⟨fNotV (ev Γ a).e, fNotV (ev Γ a).e, failL, fNotT (ev Γ a).t⟩
  | .ife c a b => ⟨fIf (ev Γ c).t (ev Γ a).e (ev Γ b).e, fIf (ev Γ c).t (ev Γ a).e (ev Γ b).e, failL, fun env => bindE ((ev Γ c).t env) fun k => match k with
    | true => (ev Γ a).t env
    | false => (ev Γ b).t env⟩
  | .call f as => match Γ.fns[f]? with
    | some g => mkE (fCall g.n g.F g.dds (evs Γ as).s)
    | none => mkE fFail
  | .blt b as => mkE (fCB (bltF b) (evs Γ as).b)
  | .isi t a => mkE (fIsi Γ.isi [t] (ev Γ a).b)
  | .isiT ts a => mkE (fIsi Γ.isi ts (ev Γ a).b)
  | .ix a b => mkE (fOp2 ixD (ev Γ a).b (ev Γ b).b)
  | .ixK a b => mkE (fOp2 ixKD (ev Γ a).b (ev Γ b).b)
  | .sl a lo hi => mkE (fSl slD (ev Γ a).b (evo Γ lo).1 (evo Γ hi).1)
  | .tup as => mkE (fTup (evs Γ as).s)
  | .lst as => mkL (fLst (evs Γ as).s)
  | .lblt b as => mkL (fCB (lbltF b) (evs Γ as).b)
  | .lsl a lo hi => mkL (fSl slL (ev Γ a).b (evo Γ lo).1 (evo Γ hi).1)
  | .cat a b => mkL (fOp2L catD (ev Γ a).b (ev Γ b).b)
  | .rep a b => mkL (fOp2L repD (ev Γ a).b (ev Γ b).b)
  | .comp own p s c e => mkL (fComp (own.map (·.2)) p (evr Γ s) (evo Γ c).2 (ev Γ e).e)
  | .fld a f => mkE (fGet Γ.flds f (ev Γ a).b)
  | .prop j a => match Γ.props[j]? with
    | some g => mkE (fProp g.cls g.n g.F g.dds (ev Γ a).e)
    | none => mkE fFail
  | .meth j a as => match Γ.meths[j]? with
    | some g => mkE (fMeth g.cls g.name g.n g.F g.dds (ev Γ a).e (evs Γ as).s)
    | none => mkE fFail
  | .make j as kws => match Γ.makes[j]? with
    | some g => mkE (fMk g.fz g.cls g.np g.ks.length g.n g.F g.arr (evs Γ as).s (evs Γ kws).s)
    | none => mkE fFail
  | .eqo j a b => match Γ.eqs[j]? with
    | some g => ⟨fOwn g.cls g.F Γ.isi (ev Γ a).e (ev Γ b).e, fOwn g.cls g.F Γ.isi (ev Γ a).e (ev Γ b).e, failL, fT (fOwn g.cls g.F Γ.isi (ev Γ a).e (ev Γ b).e)⟩
    | none => mkE fFail
  | .compz own p a b c e => mkL (fCompZ (own.map (·.2)) p (fCons (ev Γ a).e (fCons (ev Γ b).e fNil)) (evo Γ c).2 (ev Γ e).e)
  | .compm own p a c e => mkL (fCompM (own.map (·.2)) p (ev Γ a).e (evo Γ c).2 (ev Γ e).e)
  | .orn a => ⟨fOrN (ev Γ a).e, fOrN (ev Γ a).e, failL, fFailT⟩
  | .nc a => mkE (fNewc (ev Γ a).l)
  | .tupS as => mkE (fTup (evs Γ as).s)
  | .lstS as => mkL (fLst (evs Γ as).s)
  | .invF j as kws => match Γ.us[j]? with
    | some g => mkE (match g.kind with
      | 2 => fCU g.F [.cls g.cls] (uOf g.ks.length (evs Γ as) (evs Γ kws))
      | 3 => fMkU g.fz g.cls g.F (uOf g.ks.length (evs Γ as) (evs Γ kws))
      | _ => fCU g.F [] (uOf g.ks.length (evs Γ as) (evs Γ kws)))
    | none => mkE fFail
  | .invO j o as kws => match Γ.us[j]? with
    | some g => mkE (fMU g.cls g.m g.F (ev Γ o).e (uOf g.ks.length (evs Γ as) (evs Γ kws)))
    | none => mkE fFail
  | .invL j i as kws => match Γ.us[j]? with
    | some g => mkE (fLmU g.fz g.cls g.F (fV i) (uOf g.ks.length (evs Γ as) (evs Γ kws)))
    | none => mkE fFail
  | .nev => mkE fFail
  | .inT neg n a => ⟨fInT neg n (ev Γ a).e, fInT neg n (ev Γ a).e, failL, fT (fInT neg n (ev Γ a).e)⟩
  | .inO neg j a b => match Γ.b2s[j]? with
    | some g => ⟨fOwnIn neg g.cls g.F (ev Γ a).e (ev Γ b).e, fOwnIn neg g.cls g.F (ev Γ a).e (ev Γ b).e, failL, fT (fOwnIn neg g.cls g.F (ev Γ a).e (ev Γ b).e)⟩
    | none => mkE fFail
  | .comp2 own p s c p1 s1 c1 e => mkL (fComp2 (own.map (·.2)) p (evr Γ s) (evo Γ c).2 p1.slots p1 (evr Γ s1) (evo Γ c1).2 (ev Γ e).e)
  | .rev a => mkL (fRev (ev Γ a).b)
  | .opA j a b => match Γ.b2s[j]? with
    | some g => mkE (fOwnOp g.cls g.F (ev Γ a).e (ev Γ b).e)
    | none => mkE fFail
  | .cv j => match Γ.cvs[j]? with
    | some g => mkE (fC g.d)
    | none => mkE fFail
  | .mkX j as => match Γ.exs[j]? with
    | some g => mkE (fMkV g (evs Γ as).s)
    | none => mkE fFail
  | .mkXK j a => match Γ.exs[j]? with
    | some g => mkE (fMkV g (fCons (ev Γ a).e fNil))
    | none => mkE fFail
  | .xf a f => mkE (fXf Γ.xt f (ev Γ a).e)
  | .isX t a => mkE (fIsX Γ.isi Γ.xt [t] (ev Γ a).e)
  | .joi a b => mkE (fM1 joinD (ev Γ a).b (ev Γ b).b)
  | .spl a b => mkL (fM1 splitD (ev Γ a).b (ev Γ b).b)
  | .wIn neg j a => match Γ.wds[j]? with
    | some g => ⟨fW (wInD neg g.kvs) (ev Γ a).b, fW (wInD neg g.kvs) (ev Γ a).b, failL, fT (fW (wInD neg g.kvs) (ev Γ a).b)⟩
    | none => mkE fFail
  | .wIx j a => match Γ.wds[j]? with
    | some g => mkE (fW (wIxD g.kvs) (ev Γ a).b)
    | none => mkE fFail
  | .wGet j a b => match Γ.wds[j]? with
    | some g => mkE (fW2 (wGetD g.kvs) (ev Γ a).b (ev Γ b).e)
    | none => mkE fFail
  | .lam n => mkE (fLam n Γ.cl Γ.tabI Γ.tabP Γ.tabQ)
  | .callH f as => match Γ.fnsH[f]? with
    | some g => mkE (fCall g.n g.F g.dds (evs Γ as).s)
    | none => mkE fFail
  | .callZ f as => match Γ.fns[f]? with
    | some g => mkE (fCallZ g.n g.F Γ.cl Γ.caps (evs Γ as).s)
    | none => mkE fFail
  | .lr1 a => mkL (fRg1 (ev Γ a).b)
  | .lr2 a b => mkL (fRg2 (ev Γ a).b (ev Γ b).b)
  | .co j f as => match Γ.meths[j]? with
    | some g => mkE (fCallO g.cls g.n g.F g.dds (ev Γ f).e (evs Γ as).s)
    | none => mkE fFail
  | .kc j as kws => match Γ.kcs[j]? with
    | some g => mkE (fKD g.np g.ks.length g.n g.F g.arr [] (evs Γ as).s (evs Γ kws).s)
    | none => mkE fFail
  | .km j o as kws => match Γ.kms[j]? with
    | some g => mkE (fMethK g.cls g.name g.np g.ks.length g.n g.F g.arr (ev Γ o).e (evs Γ as).s (evs Γ kws).s)
    | none => mkE fFail
  | .ks j as kws => match Γ.kss[j]? with
    | some g => mkE (fKD g.np g.ks.length g.n g.F g.arr [] (evs Γ as).s (evs Γ kws).s)
    | none => mkE fFail
  | .neo j a b => match Γ.eqs[j]? with
    | some g => ⟨fOwnNe g.cls g.F Γ.isi (ev Γ a).e (ev Γ b).e, fOwnNe g.cls g.F Γ.isi (ev Γ a).e (ev Γ b).e, failL, fT (fOwnNe g.cls g.F Γ.isi (ev Γ a).e (ev Γ b).e)⟩
    | none => mkE fFail
  | .o1 j a => match Γ.o1s[j]? with
    | some g => mkE (fCB (own1D g.cls g.k g.F) (fCons (ev Γ a).e fNil))
    | none => mkE fFail
  | .o1t j a => match Γ.o1s[j]? with
    | some g => ⟨fFail, fFail, failL, fOwnT g.cls g.F (ev Γ a).e⟩
    | none => ⟨fFail, fFail, failL, fFailT⟩
  | .fs as => mkE (fFstr (evf Γ as))
noncomputable def evf (Γ : Gam) : Es → Env → Str → EM Str
  | .nil => fFn
  | .star _ _ => fun _ _ => failE
  | .cons e r => fFc (ev Γ e).b (evf Γ r)
noncomputable def evs (Γ : Gam) : Es → Bs
  | .nil => ⟨fNil, fNil, fFail, fFailT, fFail, fFailT, none⟩
  | .cons e r => ⟨fCons (ev Γ e).e (evs Γ r).s, fCons (ev Γ e).b (evs Γ r).b,
      (match r with | .nil => (ev Γ e).e | _ => fAndV (ev Γ e).e (evs Γ r).an), (match r with | .nil => (ev Γ e).t | _ => fAndT (ev Γ e).t (evs Γ r).anT),
      (match r with | .nil => (ev Γ e).e | _ => fOrV (ev Γ e).e (evs Γ r).or), (match r with | .nil => (ev Γ e).t | _ => fOrT (ev Γ e).t (evs Γ r).orT), none⟩
  | .star e r => ⟨fStar (ev Γ e).e (evs Γ r).s, failL, fFail, fFailT, fFail, fFailT, (match r with | .nil => some (ev Γ e).e | _ => none)⟩
noncomputable def evo (Γ : Gam) : Oe → (Env → EM (Option Int)) × (Env → EM Bool)
  | .none => (fNoP, fYes)
  | .some e => (fP (ev Γ e).b, (ev Γ e).t)
noncomputable def evr (Γ : Gam) : Sr → Env → EM (List D)
  | .seq e => fItems (ev Γ e).e
  | .own e => fItems (ev Γ e).b
  | .rng1 a => fCB rangeD1 (fCons (ev Γ a).b fNil)
  | .rng2 a b => fCB rangeD2 (fCons (ev Γ a).b (fCons (ev Γ b).b fNil))
  | .str e => fSigns (ev Γ e).b
  | .enum a => fCB enumD (fCons (ev Γ a).e fNil)
  | .zip a b => fCB zipD (fCons (ev Γ a).e (fCons (ev Γ b).e fNil))
  | .zip3 a b c => fCB zip3D (fCons (ev Γ a).e (fCons (ev Γ b).e (fCons (ev Γ c).e fNil)))
end
end

/-! the check that a term reads a piece of the text -/
/-- the names are not the maker's of closures -/
def nmk (Γ : Gam) (scope : Scope) : Bool := decide (Γ.mkr ≠ some scope.names)
def seen (sc : Scope) (x : Str) : Bool := match sc.names.lookup x with
  | some .local => true
  | some .cell => true
  | some .free => true
  | _ => false
def isLoc (sc : Scope) (x : Str) : Bool := match sc.names.lookup x with
  | some .local => true
  | some .cell => true
  | _ => false
def isGl (sc : Scope) (x : Str) : Bool := decide (sc.names.lookup x = some .globalImplicit) && !(x == ("__debug__" : Str)) && !(x == ("__name__" : Str))
def chkV (N : List Str) (sc : Scope) (i : Nat) (x : Str) : Bool := decide (N[i]? = some x) && seen sc x && !(x == ("__debug__" : Str)) && !(x == ("__classdict__" : Str))
def chkFree (Γ : Gam) (sc : Scope) (x : Str) : Bool := isGl sc x && Γ.frees.contains x
mutual
def chkP (N : List Str) (sc : Scope) : Pat → Expr → Bool
  | .nm i, e => match e with
    | .Name x _ => decide (N[i]? = some x) && isLoc sc x
    | _ => false
  | .tp ps, e => match e with
    | .Tuple es _ _ => chkPs N sc ps es && es.all notStar
    | _ => false
def chkPs (N : List Str) (sc : Scope) : Pats → List Expr → Bool
  | .nil, es => es.isEmpty
  | .cons p r, es => match es with
    | [] => false
    | e :: es => chkP N sc p e && chkPs N sc r es && notStar e
end
def chkTag (Γ : Gam) (sc : Scope) (t : Tag) (e : Expr) : Bool := match e with
  | .Name x _ => match t with
    | .ty n => decide (x = Str.ofString n) && chkFree Γ sc x && ["int", "bool", "str", "list", "tuple", "ValueError", "LookupError"].contains n
    | .cls c => isGl sc x && decide ((x, c) ∈ Γ.clss)
    | .ex _ => false
  | _ => false
def chkTags (Γ : Gam) (sc : Scope) : List Tag → List Expr → Bool
  | [], es => es.isEmpty
  | t :: ts, es => match es with
    | [] => false
    | e :: es => chkTag Γ sc t e && chkTags Γ sc ts es && notStar e
mutual
def chk (Γ : Gam) (N : List Str) (sc : Scope) : E → Expr → Bool
  | .v i, e => match e with
    | .Name x _ => chkV N sc i x
    | _ => false
  | .non, e => match e with
    | .Constant .none _ _ => true
    | _ => false
  | .bl b, e => match e with
    | .Constant (.bool c) _ _ => b == c
    | _ => false
  | .int i, e => match e with
    | .Constant (.int j) _ _ => i == j
    | _ => false
  | .str s, e => match e with
    | .Constant (.str t) _ _ => decide (s = t) && decide (s.length ≤ big)
    | _ => false
  | .gc i, e => false
  | .bin o a b, e => match e with
    | .BinOp x op y _ => decide (op = bopO o) && chk Γ N sc a x && chk Γ N sc b y
    | _ => false
  | .neg a, e => match e with
    | .UnaryOp .USub x _ => chk Γ N sc a x
    | _ => false
  | .cmp o a b, e => match e with
    | .Compare x [op] [y] _ => decide (op = copO o) && chk Γ N sc a x && chk Γ N sc b y && !(behindInMarks op y)
    | _ => false
  | .chain o p a b c, e => false
  | .ban as, e => match e with
    | .BoolOp .And (x :: y :: r) _ => chks Γ N sc as (x :: y :: r)
    | _ => false
  | .bor as, e => match e with
    | .BoolOp .Or (x :: y :: r) _ => chks Γ N sc as (x :: y :: r)
    | _ => false
  | .nt a, e => match e with
    | .UnaryOp .Not x _ => chk Γ N sc a x
    | _ => false
  | .ife c a b, e => match e with
    | .IfExp x y z _ => chk Γ N sc c x && chk Γ N sc a y && chk Γ N sc b z
    | _ => false
  | .call f as, e => match e with
    | .Call (.Name x _) (y :: r) [] _ => isGl sc x && chks Γ N sc as (y :: r) && (match Γ.fns[f]? with
      | some g => decide (g.name = x)
      | none => false)
    | _ => false
  | .mkX j as, e => match e with
    | .Call (.Name x _) es [] _ => isGl sc x && chks Γ N sc as es && (match Γ.exs[j]? with
      | some g => decide (g.name = x)
      | none => false)
    | _ => false
  | .mkXK j a, e => match e with
    | .Call (.Name x _) [] [⟨some kn, y, _⟩] _ => isGl sc x && chk Γ N sc a y && (match Γ.exs[j]? with
      | some g => decide (g.name = x) && decide (g.fld = some kn)
      | none => false)
    | _ => false
  | .xf a f, e => match e with
    | .Attribute y n _ => decide (n = f) && chk Γ N sc a y && attrOk y
    | _ => false
  | .isX t a, e => match e with
    | .Call (.Name x _) [y, z] [] _ => decide (x = "isinstance") && chkFree Γ sc x && chk Γ N sc a y && chkTag Γ sc t z && notStar y
    | _ => false
  | .blt b as, e => match e with
    | .Call (.Name x _) (y :: r) [] _ => decide (x = bltN b) && chkFree Γ sc x && chks Γ N sc as (y :: r)
    | _ => false
  | .isi t a, e => match e with
    | .Call (.Name x _) [y, z] [] _ => decide (x = "isinstance") && chkFree Γ sc x && chk Γ N sc a y && chkTag Γ sc t z && notStar y
    | _ => false
  | .isiT ts a, e => match e with
    | .Call (.Name x _) [y, .Tuple es _ _] [] _ => decide (x = "isinstance") && chkFree Γ sc x && chk Γ N sc a y && chkTags Γ sc ts es && notStar y && decide (ts ≠ []) && decide (ts.length ≤ 100)
    | _ => false
  | .ix a b, e => match e with
    | .Subscript x y _ => chk Γ N sc a x && chk Γ N sc b y && notSlice y
    | _ => false
  | .ixK a b, e => false
  | .sl a lo hi, e => false
  | .tup as, e => match e with
    | .Tuple es _ _ => chks Γ N sc as es
    | _ => false
  | .lst as, e => match e with
    | .List es _ => chks Γ N sc as es
    | _ => false
  | .lblt b as, e => match e with
    | .Call (.Name x _) (y :: r) [] _ => decide (x = lbltN b) && chkFree Γ sc x && chks Γ N sc as (y :: r)
    | _ => false
  | .lsl a lo hi, e => match e with
    | .Subscript x (.Slice l h none _) _ => chk Γ N sc a x && chko Γ N sc lo l && chko Γ N sc hi h
    | _ => false
  | .cat a b, e => match e with
    | .BinOp x .Add y _ => chk Γ N sc a x && chk Γ N sc b y
    | _ => false
  | .rep a b, e => match e with
    | .BinOp x .Mult y _ => chk Γ N sc a x && chk Γ N sc b y
    | _ => false
  | .comp own p s c el, e => match e with
    | .ListComp x [⟨tg, iter, ifs, 0⟩] scope _ => chkr Γ N sc s tg iter && (blkC N sc scope own && nmk Γ scope) && p.slots.all (fun i => (own.map (·.2)).contains i) && chkP N scope p tg && chkc Γ N scope c ifs && chk Γ N scope el x && notSet iter
    | _ => false
  | .fld a f, e => false
  | .prop j a, e => false
  | .meth j a as, e => false
  | .make j as kws, e => false
  | .eqo j a b, e => false
  | .compz own p a b c el, e => false
  | .compm own p a c el, e => false
  | .orn a, e => false
  | .nc a, e => match e with
    | .List es lp => chk Γ N sc a (.List es lp)
    | .Subscript x sl sp => notNc a && chk Γ N sc a (.Subscript x sl sp)
    | .Call f es ks cp => chk Γ N sc a (.Call f es ks cp)
    | .ListComp x gs lsc lp => notNc a && chk Γ N sc a (.ListComp x gs lsc lp)
    | _ => false
  | .tupS as, e => false
  | .lstS as, e => false
  | .invF j as kws, e => false
  | .invO j o as kws, e => false
  | .invL j i as kws, e => false
  | .nev, e => notComp e
  | .inT neg n a, e => false
  | .inO neg j a b, e => false
  | .comp2 own p s c p1 s1 c1 el, e => false
  | .rev a, e => false
  | .opA j a b, e => false
  | .cv j, e => false
  | .joi a b, e => false
  | .spl a b, e => false
  | .wIn neg j a, e => false
  | .wIx j a, e => false
  | .wGet j a b, e => false
  | .lam n, e => false
  | .callH f as, e => false
  | .callZ f as, e => false
  | .lr1 a, e => false
  | .lr2 a b, e => false
  | .co j f as, e => false
  | .kc j as kws, e => false
  | .km j o as kws, e => false
  | .ks j as kws, e => false
  | .neo j a b, e => false
  | .o1 j a, e => false
  | .o1t j a, e => false
  | .fs as, e => false
def chksS (Γ : Gam) (N : List Str) (sc : Scope) : Es → List Expr → Bool
  | .nil, es => es.isEmpty
  | .cons a r, es => match es with
    | [] => false
    | e :: es => chk Γ N sc a e && chksS Γ N sc r es && notStar e
  | .star a r, es => match es with
    | [] => false
    | e :: es => (match e with
      | .Starred x _ => chk Γ N sc a x
      | _ => false) && chksS Γ N sc r es
def chkf (Γ : Gam) (N : List Str) (sc : Scope) : Es → List Expr → Bool
  | .nil, es => es.isEmpty
  | .star _ _, _ => false
  | .cons a r, es => match es with
    | [] => false
    | e :: es => (match e with
      | .FormattedValue x c sp _ => c == -1 && sp.isNone && chk Γ N sc a x
      | .Constant (.str t) _ _ => (match a with
        | .str s => decide (s = t)
        | _ => false)
      | _ => false) && chkf Γ N sc r es
def chkk (Γ : Gam) (N : List Str) (sc : Scope) : Es → List Keyword → Bool
  | .nil, ks => ks.isEmpty
  | .star _ _, _ => false
  | .cons a r, ks => match ks with
    | [] => false
    | ⟨_, e, _⟩ :: ks => chk Γ N sc a e && chkk Γ N sc r ks
def chks (Γ : Gam) (N : List Str) (sc : Scope) : Es → List Expr → Bool
  | .nil, es => es.isEmpty
  | .star _ _, _ => false
  | .cons a r, es => match es with
    | [] => false
    | e :: es => chk Γ N sc a e && chks Γ N sc r es && notStar e
def chko (Γ : Gam) (N : List Str) (sc : Scope) : Oe → Option Expr → Bool
  | .none, o => o.isNone
  | .some a, o => match o with
    | none => false
    | some e => chk Γ N sc a e
def chkc (Γ : Gam) (N : List Str) (sc : Scope) : Oe → List Expr → Bool
  | .none, es => es.isEmpty
  | .some a, es => match es with
    | [e] => chk Γ N sc a e
    | _ => false
def chkr (Γ : Gam) (N : List Str) (sc : Scope) : Sr → Expr → Expr → Bool
  | .seq a, _, e => chk Γ N sc a e
  | .own a, _, e => chk Γ N sc a e
  | .rng1 a, _, e => match e with
    | .Call (.Name x _) [y] [] _ => decide (x = "range") && chkFree Γ sc x && chk Γ N sc a y && notStar y
    | _ => false
  | .rng2 a b, _, e => match e with
    | .Call (.Name x _) [y, z] [] _ => decide (x = "range") && chkFree Γ sc x && chk Γ N sc a y && chk Γ N sc b z && notStar y && notStar z
    | _ => false
  | .str a, _, e => chk Γ N sc a e
  | .enum a, tg, e => match tg, e with
    | .Tuple _ _ _, .Call (.Name x _) [y] [] _ => decide (x = "enumerate") && chkFree Γ sc x && chk Γ N sc a y && notStar y
    | _, _ => false
  | .zip a b, tg, e => match tg, e with
    | .Tuple _ _ _, .Call (.Name x _) [y, z] [] _ => decide (x = "zip") && chkFree Γ sc x && chk Γ N sc a y && chk Γ N sc b z && notStar y && notStar z
    | _, _ => false
  | .zip3 a b c, tg, e => match tg, e with
    | .Tuple _ _ _, .Call (.Name x _) [y, z, w] [] _ => decide (x = "zip") && chkFree Γ sc x && (chk Γ N sc a y && chk Γ N sc b z && chk Γ N sc c w) && (notStar y && notStar z && notStar w)
    | _, _ => false
end
end EG
namespace EG
open PySem L2

structure GFnOk (W : Wd) (X : Cx) (g : GFn) : Prop where
  ok : ∃ f fd ps dvs dus, FnOk X.prog X.w X.K X.mg X.base (L2N.CX X.prog X.w) g.lvl f fd ps (spF W g.n g.F) ∧ X.mg g.name = some (.ref f) ∧ PySem.W.keepIn X.K (.ref f) = true ∧ Binds X.K fd ps dus ∧ Vals dvs dus ∧ ∀ S H, RepVs W S H dvs g.dds
structure GFHOk (W : Wd) (X : Cx) (g : GFn) : Prop where
  ok : ∃ f fd ps dvs dus, FnOk X.prog X.w X.K X.mg X.base (L2.CX X.prog X.w) g.lvl f fd ps (spF W g.n g.F) ∧ X.mg g.name = some (.ref f) ∧ PySem.W.keepIn X.K (.ref f) = true ∧ Binds X.K fd ps dus ∧ Vals dvs dus ∧ ∀ S H, RepVs W S H dvs g.dds
structure GCOk (W : Wd) (X : Cx) (c : GC) : Prop where
  ok : ∃ v u, X.mg c.name = some u ∧ RelV v u ∧ ∀ S H, RepV W S H v c.d
structure GMOk (W : Wd) (X : Cx) (g : GM) : Prop where
  ok : ∃ f fd ps dvs dus, FnOk X.prog X.w X.K X.mg X.base (L2N.CX X.prog X.w) g.lvl f fd ps (spF W g.n g.F) ∧ Cls W.K (W.ca g.cls) ∧ Meth W.K (W.ca g.cls) g.name f ∧ Binds X.K fd ps dus ∧ Vals dvs dus ∧ ∀ S H, RepVs W S H dvs g.dds
structure GPOk (W : Wd) (X : Cx) (g : GM) : Prop where
  ok : ∃ pp f fd ps dvs dus, FnOk X.prog X.w X.K X.mg X.base (L2N.CX X.prog X.w) g.lvl f fd ps (spF W g.n g.F) ∧ Cls W.K (W.ca g.cls) ∧ PropOf W.K (W.ca g.cls) g.name pp f ∧ Binds X.K fd ps dus ∧ Vals dvs dus ∧ ∀ S H, RepVs W S H dvs g.dds
structure GMkOk (W : Wd) (X : Cx) (g : GMk) : Prop where
  ok : ∃ f fd ps gB gV, FnOk X.prog X.w X.K X.mg X.base (L2N.CX X.prog X.w) g.lvl f fd ps (spF W g.n g.F) ∧ Mk W.K (W.ca g.cls) f ∧ X.mg g.name = some (.ref (W.ca g.cls)) ∧ KBn X.K fd ps (g.np + 1) g.ks gB gV ∧ ArrOk W gV g.arr
structure GEOk (W : Wd) (X : Cx) (g : GM) : Prop where
  ok : ∃ f fd ps, FnOk X.prog X.w X.K X.mg X.base (L2N.CX X.prog X.w) g.lvl f fd ps (spF W 2 g.F) ∧ ClsOk W g.cls ∧ PySem.W.findIn W.K (.ref (W.ca g.cls)) "__eq__" = some (some (.ref f)) ∧ PySem.W.isFn W.K (.ref f) = true ∧ Binds X.K fd ps [] ∧ NeFacts W.K (W.ca g.cls) f
structure GKcOk (W : Wd) (X : Cx) (g : GK) : Prop where
  ok : ∃ f fd ps gB gV, FnOk X.prog X.w X.K X.mg X.base (L2N.CX X.prog X.w) g.lvl f fd ps (spF W g.n g.F) ∧ X.mg g.name = some (.ref f) ∧ PySem.W.keepIn X.K (.ref f) = true ∧ KBn X.K fd ps g.np g.ks gB gV ∧ ArrOk W gV g.arr
structure GKmOk (W : Wd) (X : Cx) (g : GK) : Prop where
  ok : ∃ f fd ps gB gV, FnOk X.prog X.w X.K X.mg X.base (L2N.CX X.prog X.w) g.lvl f fd ps (spF W g.n g.F) ∧ Cls W.K (W.ca g.cls) ∧ Meth W.K (W.ca g.cls) g.name f ∧ KBn X.K fd ps (1 + g.np) g.ks gB gV ∧ ArrOk W gV g.arr
structure GKsOk (W : Wd) (X : Cx) (g : GK) : Prop where
  ok : ∃ mc pp f fd ps gB gV, FnOk X.prog X.w X.K X.mg X.base (L2N.CX X.prog X.w) g.lvl f fd ps (spF W g.n g.F) ∧ X.mg g.cname = some (.ref (W.ca g.cls)) ∧ SMet W.K (W.ca g.cls) mc g.name pp f ∧ KBn X.K fd ps g.np g.ks gB gV ∧ ArrOk W gV g.arr
structure GOOk (W : Wd) (X : Cx) (g : GO) : Prop where
  ok : ∃ f fd ps, FnOk X.prog X.w X.K X.mg X.base (L2N.CX X.prog X.w) g.lvl f fd ps (spF W 1 g.F) ∧ PySem.W.findIn W.K (.ref (W.ca g.cls)) g.k.dunder = some (some (.ref f)) ∧ PySem.W.isFn W.K (.ref f) = true ∧ Binds X.K fd ps []
def GUOk (W : Wd) (P : Program) (w : World) (mg : Str → Option Value) (base : Heap) (g : GU) : Prop := ∃ f, FnU P w W.K mg base (L2N.CX P w) g.lvl f g.ks (spU W g.F) ∧ match g.kind with
  | 0 => mg g.x = some (.ref f) ∧ PySem.W.keepIn W.K (.ref f) = true
  | 1 => ∃ mc pp, mg g.x = some (.ref (W.ca g.cls)) ∧ SMet W.K (W.ca g.cls) mc g.m pp f
  | 2 => ∃ mc pp, mg g.x = some (.ref (W.ca g.cls)) ∧ ClX.CRead W.K (W.ca g.cls) mc ∧ ClX.CMet W.K (W.ca g.cls) mc g.m pp f
  | 3 => mg g.x = some (.ref (W.ca g.cls)) ∧ Mk W.K (W.ca g.cls) f
  | 4 => Cls W.K (W.ca g.cls) ∧ BMeth W.K (W.ca g.cls) g.m f
  | _ => False
/-- what the text's scope tells, the running one tells too (a free name may be a cell there) -/
def Scopes (sc sc' : Scope) : Prop := ∀ x k, sc.names.lookup x = some k → ∃ k', sc'.names.lookup x = some k' ∧ (k' = k ∨ (k = NameKind.free ∧ k' = NameKind.cell))
theorem Scopes.refl {sc : Scope} : Scopes sc sc := fun x k h => ⟨k, h, .inl rfl⟩
theorem relabel_look {p : Str → NameKind → Bool} (hp : ∀ n k, p n k = true → k = NameKind.free) : ∀ (names : List (Str × NameKind)) (x : Str) (k : NameKind), names.lookup x = some k →
    ∃ k', (names.map fun (n, k) => if p n k then (n, NameKind.cell) else (n, k)).lookup x = some k' ∧ (k' = k ∨ (k = NameKind.free ∧ k' = NameKind.cell))
  | [], x, k, h => by simp at h
  | (n, kk) :: r, x, k, h => by
    rw [List.lookup_cons] at h
    rw [List.map_cons]
    by_cases q : p n kk = true
    · simp only [q, if_true]
      rw [List.lookup_cons]
      split at h
      · cases h
        rename_i e
        exact ⟨_, rfl, .inr ⟨hp _ _ q, rfl⟩⟩
      · rename_i e
        exact relabel_look hp r x k h
    · simp only [q, if_false, Bool.false_eq_true]
      rw [List.lookup_cons]
      split at h
      · cases h
        rename_i e
        exact ⟨_, rfl, .inl rfl⟩
      · rename_i e
        exact relabel_look hp r x k h
theorem scopes_relabel {sc : Scope} {env : PySem.Env} : Scopes sc (relabel sc env) := fun x k h => relabel_look (p := fun n k => (k == NameKind.free && env.scope.kind == .function && env.kindOf n == some .cell)) (fun n k h => by
  simp only [Bool.and_eq_true, beq_iff_eq] at h
  exact h.1.1) sc.names x k h
theorem blkOk_scopes {N : List Str} {sc sc' scope : Scope} {own : List (Str × Nat)} (h : BlkOk N sc scope own) (s : Scopes sc sc') : BlkOk N sc' scope own where
  kind := h.kind
  uniq := h.uniq
  ix := h.ix
  free := fun y hy e => by
    rcases h.free y hy e with q | q
    · obtain ⟨k', e1, e2⟩ := s _ _ q
      rcases e2 with rfl | ⟨e2, _⟩
      · exact .inl e1
      · cases e2
    · obtain ⟨k', e1, e2⟩ := s _ _ q
      rcases e2 with rfl | ⟨_, rfl⟩
      · exact .inr e1
      · exact .inl e1
  own := h.own
def GHOk (W : Wd) (P : Program) (w : World) (mg : Str → Option Value) (base : Heap) (g : GH) : Prop := ∃ f, FnQ P w W.K mg base g.lvl 1 f (spF W 1 g.F) ∧ mg g.name = some (.ref f) ∧ PySem.W.keepIn W.K (.ref f) = true
/-- an own operator of two, by the class's own def -/
def GBOk (W : Wd) (P : Program) (w : World) (mg : Str → Option Value) (base : Heap) (g : GB) : Prop := ∃ f fd ps, FnOk P w W.K mg base (L2N.CX P w) g.lvl f fd ps (spF W 2 g.F) ∧ PySem.W.findIn W.K (.ref (W.ca g.cls)) g.k.dunder = some (some (.ref f)) ∧ PySem.W.isFn W.K (.ref f) = true ∧ Binds W.K fd ps [] ∧ (g.k = .and_ → PySem.W.selfFirst W.K (W.ca g.cls) = true)
/-- a constant of a class -/
def GCvOk (W : Wd) (mg : Str → Option Value) (g : GCv) : Prop := mg g.x = some (.ref (W.ca g.cls)) ∧ ∃ mc v u, ClX.CRead W.K (W.ca g.cls) mc ∧ ClX.CVal W.K (W.ca g.cls) mc g.f v u ∧ ∀ S H, RepV W S H v g.d
structure XOk (Γ : Gam) (N : List Str) (sc : Scope) (W : Wd) (Wx : WX) (k : Nat) (X : Cx) : Prop where
  hN : X.N = N
  nd : N.Nodup
  hlk : Scopes sc X.env.scope
  hK : X.K = W.K
  calm : X.calm = true
  tk : L2N.Takes X Wx
  tk2 : Γ.hot = true → L2.Takes X Wx
  fnsH : ∀ (i : Nat) g, Γ.fnsH[i]? = some g → GFHOk W X g ∧ g.lvl ≤ k
  room : Room k X.A
  fn : ∀ x, sc.names.lookup x = some .cell → X.fn x = true
  fns : ∀ (i : Nat) g, Γ.fns[i]? = some g → GFnOk W X g ∧ g.lvl ≤ k
  consts : ∀ (i : Nat) c, Γ.consts[i]? = some c → GCOk W X c
  clss : ∀ x c, (x, c) ∈ Γ.clss → X.mg x = some (.ref (W.ca c))
  frees : ∀ x, x ∈ Γ.frees → X.mg x = none
  isi : IsiOk W Γ.isi
  flds : FldOk W Γ.flds
  meths : ∀ (i : Nat) g, Γ.meths[i]? = some g → GMOk W X g ∧ g.lvl ≤ k
  props : ∀ (i : Nat) g, Γ.props[i]? = some g → GPOk W X g ∧ g.lvl + 1 ≤ k
  makes : ∀ (i : Nat) g, Γ.makes[i]? = some g → GMkOk W X g ∧ g.lvl + 1 ≤ k
  eqs : ∀ (i : Nat) g, Γ.eqs[i]? = some g → GEOk W X g ∧ g.lvl + 1 ≤ k
  kcs : ∀ (i : Nat) g, Γ.kcs[i]? = some g → GKcOk W X g ∧ g.lvl ≤ k
  kms : ∀ (i : Nat) g, Γ.kms[i]? = some g → GKmOk W X g ∧ g.lvl ≤ k
  kss : ∀ (i : Nat) g, Γ.kss[i]? = some g → GKsOk W X g ∧ g.lvl ≤ k
  o1s : ∀ (i : Nat) g, Γ.o1s[i]? = some g → GOOk W X g ∧ g.lvl + 1 ≤ k
  us : ∀ (i : Nat) g, Γ.us[i]? = some g → GUOk W X.prog X.w X.mg X.base g ∧ g.lvl + 1 ≤ k
  b2s : ∀ (i : Nat) g, Γ.b2s[i]? = some g → GBOk W X.prog X.w X.mg X.base g ∧ g.lvl + 1 ≤ k
  cvs : ∀ (i : Nat) g, Γ.cvs[i]? = some g → GCvOk W X.mg g
  wds : ∀ (i : Nat) g, Γ.wds[i]? = some g → GWdOk W X.w X.mg g
  exs : ∀ (i : Nat) g, Γ.exs[i]? = some g → GXOk W X.prog X.mg g ∧ 1 ≤ k
  xt : XtOk W Γ.xt
  hfs : ∀ (i : Nat) g, Γ.hfs[i]? = some g → GHOk W X.prog X.w X.mg X.base g ∧ g.lvl ≤ k
  ctch : ∀ c hs, (c, hs) ∈ Γ.ctch → PySem.W.exmAny W.K (.ref (W.ca c)) (hs.map fun h => .ref (W.ca h)) = some true
  lam : LamOk W X.prog X.w X.mg X.base k Γ.LF
  lamB : ∀ n b p e z, Γ.lamB n b p e z = true → W.lamB n b p e z = true
  noT : Γ.noT = true → noTup W.K = true
  mkr : Γ.mkr = some sc.names → X.env.cells = Γ.cl ∧ (∀ x, X.fn x = true) ∧ ∃ c, MkOk W X Γ.tabP Γ.tabQ c
section
variable {Γ : Gam} {N : List Str} {sc : Scope} {W : Wd} {Wx : WX} {k : Nat} {X : Cx}
theorem XOk.blk (h : XOk Γ N sc W Wx k X) (s : Shared) (H : Hp) (scope : Scope) (C : Addr) (cl : List (Str × Addr)) (fp : List Addr) (hm : nmk Γ scope = true) : XOk Γ N scope W Wx0 k (X.blk s H scope (compEnvC scope cl C X.env) fp) where
  hN := h.hN
  nd := h.nd
  hlk := scopes_relabel
  hK := h.hK
  calm := h.calm
  tk := takes_weak L2.takes0
  tk2 := fun _ => L2.takes0
  fnsH := fun i g e => let ⟨⟨q⟩, l⟩ := h.fnsH i g e; ⟨⟨q⟩, l⟩
  room := h.room
  fn := fun x e => by
    show (scope.names.lookup x == some .cell) = true
    rw [e]; rfl
  fns := fun i g e => let ⟨⟨q⟩, l⟩ := h.fns i g e; ⟨⟨q⟩, l⟩
  consts := fun i c e => let ⟨q⟩ := h.consts i c e; ⟨q⟩
  clss := h.clss
  frees := h.frees
  isi := h.isi
  flds := h.flds
  meths := fun i g e => let ⟨⟨q⟩, l⟩ := h.meths i g e; ⟨⟨q⟩, l⟩
  props := fun i g e => let ⟨⟨q⟩, l⟩ := h.props i g e; ⟨⟨q⟩, l⟩
  makes := fun i g e => let ⟨⟨q⟩, l⟩ := h.makes i g e; ⟨⟨q⟩, l⟩
  eqs := fun i g e => let ⟨⟨q⟩, l⟩ := h.eqs i g e; ⟨⟨q⟩, l⟩
  kcs := fun i g e => let ⟨⟨q⟩, l⟩ := h.kcs i g e; ⟨⟨q⟩, l⟩
  kms := fun i g e => let ⟨⟨q⟩, l⟩ := h.kms i g e; ⟨⟨q⟩, l⟩
  kss := fun i g e => let ⟨⟨q⟩, l⟩ := h.kss i g e; ⟨⟨q⟩, l⟩
  o1s := fun i g e => let ⟨⟨q⟩, l⟩ := h.o1s i g e; ⟨⟨q⟩, l⟩
  us := h.us
  b2s := h.b2s
  cvs := h.cvs
  wds := h.wds
  exs := h.exs
  xt := h.xt
  hfs := h.hfs
  ctch := h.ctch
  lam := h.lam
  lamB := h.lamB
  noT := h.noT
  mkr := fun e => absurd e (of_decide_eq_true hm)
structure PB (W : Wd) (Wx : WX) (X : Cx) (e : Expr) (bn : Bn) : Prop where
  pe : PE X e (tEv W Wx bn.e)
  pb : PE X e (tEvB W Wx bn.b)
  pl : PE X e (tEvL W Wx bn.l)
  pt : PT X e (tEvT W Wx bn.t)
structure PBs (W : Wd) (Wx : WX) (X : Cx) (es : List Expr) (bs : Bs) : Prop where
  ps : PA X es (tEvs W Wx bs.s)
  pb : PA X es (tEvBs W Wx bs.b)
  pan : ∀ pos, es ≠ [] → PE X (.BoolOp .And es pos) (tEv W Wx bs.an)
  panT : ∀ pos, es ≠ [] → PW X (.BoolOp .And es pos) (tEvT W Wx bs.anT)
  por : ∀ pos, es ≠ [] → PE X (.BoolOp .Or es pos) (tEv W Wx bs.or)
  porT : ∀ pos, es ≠ [] → PW X (.BoolOp .Or es pos) (tEvT W Wx bs.orT)
theorem failL_of {e : Expr} {t : TE} (h : PE X e t) : PE X e (tEvL W Wx failL) := PE.imp h fun σ H Q ⟨S, μ, env, r, hS, hE, hf, hk⟩ => by cases hf
theorem mkE_ok (hK : X.K = W.K) {e : Expr} {f : Env → EM D} (hp : plainT e = true) (h : PE X e (tEv W Wx f)) : PB W Wx X e (mkE f) :=
  ⟨h, toB h, failL_of h, et_truth hK (toB h) (plainT_of hp)⟩
theorem mkL_ok (hK : X.K = W.K) {e : Expr} {g : Env → EM (List D)} (hp : plainT e = true) (h : PE X e (tEvL W Wx g)) : PB W Wx X e (mkL g) :=
  ⟨ev_new h, toB (ev_new h), h, et_truth hK (toB (ev_new h)) (plainT_of hp)⟩
theorem pe_none {e : Expr} : PE X e (fun _ _ _ => False) := ⟨fun _ _ _ _ _ _ h => h.elim⟩
theorem pt_none {e : Expr} : PT X e (fun _ _ _ => False) := ⟨fun _ _ _ _ _ _ h => h.elim⟩
theorem pb_fail {e : Expr} : PB W Wx X e (mkE fFail) := ⟨PE.imp pe_none fun σ H Q ⟨S, μ, env, r, hS, hE, hf, hk⟩ => (nomatch hf), PE.imp pe_none fun σ H Q ⟨S, μ, env, r, hS, hE, hf, hk⟩ => (nomatch hf), failL_of pe_none, PT.imp pt_none fun σ H Q ⟨S, μ, env, r, hS, hE, hf, hk⟩ => (nomatch hf)⟩
theorem seen_vis {sc' : Scope} (s : Scopes sc sc') {x : Str} (h : seen sc x = true) : Vis sc' x := by
  unfold seen at h
  split at h <;> first
    | (cases h; done)
    | (rename_i e
       obtain ⟨k', e1, e2⟩ := s _ _ e
       rcases e2 with rfl | ⟨_, rfl⟩ <;> first | exact .inl e1 | exact .inr (.inl e1) | exact .inr (.inr e1))
theorem isLoc_loc {x : Str} (h : isLoc sc x = true) : Loc sc x := by
  unfold isLoc at h
  split at h <;> first | exact .inl (by assumption) | exact .inr (by assumption) | cases h
theorem loc_scopes {sc' : Scope} (s : Scopes sc sc') {x : Str} (h : Loc sc x) : Loc sc' x := by
  rcases h with h | h
  · obtain ⟨k', e1, e2⟩ := s _ _ h
    rcases e2 with rfl | ⟨e2, _⟩
    · exact .inl e1
    · cases e2
  · obtain ⟨k', e1, e2⟩ := s _ _ h
    rcases e2 with rfl | ⟨e2, _⟩
    · exact .inr e1
    · cases e2
theorem isGl_of (h : XOk Γ N sc W Wx k X) {x : Str} (hg : isGl sc x = true) : Gl X x ∧ (x == ("__debug__" : Str)) = false ∧ x ≠ "__name__" := by
  unfold isGl at hg
  simp only [Bool.and_eq_true, Bool.not_eq_true', decide_eq_true_eq] at hg
  obtain ⟨⟨h1, h2⟩, h3⟩ := hg
  refine ⟨?_, h2, fun z => ?_⟩
  · obtain ⟨k', e1, e2⟩ := h.hlk _ _ h1
    rcases e2 with rfl | ⟨e2, _⟩
    · exact e1
    · cases e2
  · rw [z] at h3; exact absurd h3 (by decide)
theorem free_of (h : XOk Γ N sc W Wx k X) {x : Str} (hg : chkFree Γ sc x = true) : Gl X x ∧ (x == ("__debug__" : Str)) = false ∧ x ≠ "__name__" ∧ X.mg x = none := by
  unfold chkFree at hg
  rw [Bool.and_eq_true] at hg
  obtain ⟨a, b, c⟩ := isGl_of h hg.1
  exact ⟨a, b, c, h.frees x (by simpa using hg.2)⟩
theorem var_of (h : XOk Γ N sc W Wx k X) {i : Nat} {x : Str} {pos : Pos} (hc : chkV N sc i x = true) : PE X (.Name x pos) (tVar i) := by
  unfold chkV at hc
  simp only [Bool.and_eq_true, Bool.not_eq_true', decide_eq_true_eq] at hc
  obtain ⟨⟨⟨h1, h2⟩, h3⟩, h4⟩ := hc
  exact pe_var (by rw [h.hN]; exact h1) (seen_vis h.hlk h2) h3 h4
theorem store_of (h : XOk Γ N sc W Wx k X) {i : Nat} {x : Str} {pos : Pos} (h1 : N[i]? = some x) (h2 : isLoc sc x = true) : PG X (.Name x pos) (gName i) := by
  have l := isLoc_loc h2
  refine pg_name (by rw [h.hN]; exact h.nd) (by rw [h.hN]; exact h1) (loc_scopes h.hlk l) ?_
  rcases l with l | l
  · obtain ⟨k', e1, e2⟩ := h.hlk _ _ l
    rcases e2 with rfl | ⟨e2, _⟩
    · exact .inr e1
    · cases e2
  · exact .inl (h.fn x l)
mutual
theorem pat_of (h : XOk Γ N sc W Wx k X) : ∀ (p : Pat) (e : Expr), chkP N sc p e = true → PG X e (tTg W p)
  | .nm i, e, hc => by
    unfold chkP at hc
    split at hc
    · rw [Bool.and_eq_true] at hc
      exact eg_name (store_of h (of_decide_eq_true hc.1) hc.2)
    · cases hc
  | .tp ps, e, hc => by
    unfold chkP at hc
    split at hc
    · rw [Bool.and_eq_true] at hc
      obtain ⟨h1, h2⟩ := pats_of h ps _ hc.1
      exact eg_tup h.hK h.calm h1 assignEach_len h2 (assignEach_no hc.2)
    · cases hc
theorem pats_of (h : XOk Γ N sc W Wx k X) : ∀ (p : Pats) (es : List Expr), chkPs N sc p es = true → PGs X es (tTgs W p) ∧ p.len = es.length
  | .nil, es, hc => by
    unfold chkPs at hc
    cases es with
    | nil => exact ⟨eg_nil, rfl⟩
    | cons e es => cases hc
  | .cons p r, es, hc => by
    unfold chkPs at hc
    cases es with
    | nil => cases hc
    | cons e es =>
      simp only [Bool.and_eq_true] at hc
      obtain ⟨⟨h1, h2⟩, h3⟩ := hc
      obtain ⟨q1, q2⟩ := pats_of h r es h2
      exact ⟨eg_cons (pat_of h p e h1) q1 (by rw [assignEach_of h3]; rfl), by simp [Pats.len, q2]⟩
end
theorem tag_of (h : XOk Γ N sc W Wx k X) {t : Tag} {e : Expr} (hc : chkTag Γ sc t e = true) : PE X e (tC (tagC W t)) := by
  unfold chkTag at hc
  split at hc
  · split at hc
    · rename_i n
      simp only [Bool.and_eq_true, decide_eq_true_eq] at hc
      obtain ⟨⟨h1, h2⟩, h3⟩ := hc
      obtain ⟨a, b, c, d⟩ := free_of h h2
      have hb : bootBuiltins (Str.ofString n) = some (.type n) := by
        have h3 : n ∈ ["int", "bool", "str", "list", "tuple", "ValueError", "LookupError"] := by simpa using h3
        simp only [List.mem_cons, List.not_mem_nil, or_false] at h3
        rcases h3 with rfl | rfl | rfl | rfl | rfl | rfl | rfl
        · exact PyProof.Rows.boot_int
        · exact PyProof.Rows.boot_bool
        · exact PyProof.Rows.boot_str
        · exact PyProof.Rows.boot_list
        · exact PyProof.Rows.boot_tuple
        · exact boot_VE
        · exact boot_LE
      subst h1
      exact pe_bltn a d hb rfl c b
    · rename_i c
      simp only [Bool.and_eq_true, decide_eq_true_eq] at hc
      obtain ⟨a, b, _⟩ := isGl_of h hc.1
      exact pe_glob a (h.clss _ _ hc.2) rfl b
    · cases hc
  · cases hc
theorem tags_of (h : XOk Γ N sc W Wx k X) : ∀ {ts : List Tag} {es : List Expr}, chkTags Γ sc ts es = true → ClsEs W X es ts
  | [], es, hc => by
    unfold chkTags at hc
    cases es with
    | nil => exact .nil
    | cons e es => cases hc
  | t :: ts, es, hc => by
    unfold chkTags at hc
    cases es with
    | nil => cases hc
    | cons e es =>
      simp only [Bool.and_eq_true] at hc
      exact .cons (tag_of h hc.1.1) (starEach_of hc.2) (tags_of h hc.1.2)
theorem bop_ok (hK : X.K = W.K) (o : BOp) : ∃ r, OpR X (binaryOp (bopO o)) r ∧ OpSpec W r (bopF o) := by
  cases o with
  | add => exact ⟨_, opr_add hK, os_add⟩
  | sub => exact ⟨_, op_sub, os_sub⟩
  | mul => exact ⟨_, opr_mul hK, os_mul⟩
  | div => exact ⟨_, op_fdivW, os_div⟩
  | mod => exact ⟨_, op_mod, os_mod⟩
  | pow => exact ⟨_, op_pow, os_pow⟩
theorem cop_ok (hK : X.K = W.K) (hu : X.A.units + 65 < cLine) (o : COp) : ∃ r, OpR X (compareOp (copO o)) r ∧ OpSpec W r (copF o) := by
  cases o with
  | eq => exact ⟨_, opr_eq hK (by omega), os_eq⟩
  | ne => exact ⟨_, opr_ne hK (by omega), os_ne⟩
  | lt => exact ⟨_, op_lt, os_cmp _⟩
  | le => exact ⟨_, op_le, os_cmp _⟩
  | gt => exact ⟨_, op_gt, os_cmp _⟩
  | ge => exact ⟨_, op_ge, os_cmp _⟩
  | isN => exact ⟨_, op_isNB, os_isN⟩
  | notN => exact ⟨_, op_notNB, os_notN⟩
  | in_ => exact ⟨_, opr_in hK, os_in⟩
  | notIn => exact ⟨_, opr_notIn hK, os_notIn⟩
  | inP => exact ⟨_, by rw [← hK]; exact op_inD hu, os_inP⟩
  | notInP => exact ⟨_, by rw [← hK]; exact op_notInD hu, os_notInP⟩
  | inK => exact ⟨_, op_inK (neg := false) (by omega), os_inK⟩
  | notInK => exact ⟨_, op_inK (neg := true) (by omega), os_inK⟩
theorem blt_call (h : XOk Γ N sc W Wx k X) (b : Blt) {x : Str} {p pos : Pos} {e : Expr} {es : List Expr} {g : Env → EM (List D)} (hx : x = bltN b) (hf : chkFree Γ sc x = true) (ha : PA X (e :: es) (tEvBs W Wx g)) (he : starEach (e :: es) X.env = (false, eval e X.env) :: starEach es X.env) (hpl : (backTo pos (starEach es X.env)).any (·.1) = false) :
    PE X (.Call (.Name x p) (e :: es) [] pos) (tEv W Wx (fCB (bltF b) g)) := by
  obtain ⟨a, b', c, d⟩ := free_of h hf
  have hK := h.hK
  subst hx
  cases b with
  | len => exact ev_callB call_len (cs_len hK) a d PySem.boot_len ha c b' he hpl
  | abs => exact ev_callB call_abs cs_abs a d (by decide +kernel) ha c b' he hpl
  | int => exact ev_callTy cr_int cs_int a d PyProof.Rows.boot_int ha c b' he hpl
  | str => exact ev_callTy call_str_int cs_str a d PyProof.Rows.boot_str ha c b' he hpl
  | bool => exact ev_callTy call_bool1 cs_bool a d PyProof.Rows.boot_bool ha c b' he hpl
  | all => exact ev_callB (cr_all h.calm) (by rw [hK]; exact cs_all) a d PyProof.Rows.boot_all ha c b' he hpl
  | any => exact ev_callB (cr_any h.calm) (by rw [hK]; exact cs_any) a d PyProof.Rows.boot_any ha c b' he hpl
  | sum => exact ev_callB (cr_sum h.calm) (by rw [hK]; exact cs_sum) a d PyProof.Rows.boot_sum ha c b' he hpl
  | max => exact ev_callB (cr_max' h.calm) (by rw [hK]; exact cs_max) a d PyProof.Rows.boot_max ha c b' he hpl
  | min => exact ev_callB (cr_min' h.calm) (by rw [hK]; exact cs_min) a d PyProof.Rows.boot_min ha c b' he hpl
  | minT => exact ev_callB (cr_minI h.calm (by have := h.room.un; omega)) (by rw [hK]; exact cs_minT) a d PyProof.Rows.boot_min ha c b' he hpl
  | tuple => exact ev_callTy call_tuple_of (by rw [hK]; exact cs_tuple) a d PyProof.Rows.boot_tuple ha c b' he hpl
theorem lblt_call (h : XOk Γ N sc W Wx k X) (b : LBlt) {x : Str} {p pos : Pos} {e : Expr} {es : List Expr} {g : Env → EM (List D)} (hx : x = lbltN b) (hf : chkFree Γ sc x = true) (ha : PA X (e :: es) (tEvBs W Wx g)) (he : starEach (e :: es) X.env = (false, eval e X.env) :: starEach es X.env) (hpl : (backTo pos (starEach es X.env)).any (·.1) = false) :
    PE X (.Call (.Name x p) (e :: es) [] pos) (tEvL W Wx (fCB (lbltF b) g)) := by
  obtain ⟨a, b', c, d⟩ := free_of h hf
  have hK := h.hK
  subst hx
  cases b with
  | sorted => exact el_callB cr_sorted (by rw [hK]; exact cs_sorted) a d PyProof.Rows.boot_sorted ha c b' he hpl
  | list => exact el_callTy call_list_of (by rw [hK]; exact cs_list) a d PyProof.Rows.boot_list ha c b' he hpl
theorem ev_neg {a : Expr} {pos : Pos} {f : Env → EM D} (ha : PE X a (tEvB W Wx f)) : PE X (.UnaryOp .USub a pos) (tEv W Wx (fNeg f)) :=
  PE.imp (pe_un un_neg ha) fun σ H Q ⟨S, μ, env, res, hS, hE, hf, hk⟩ => by
    refine tG.bind hS hE hf hk fun d μ1 S1 H1 l1 g1 e1 hf1 hk1 v rv => ?_
    cases d <;> first
      | (cases hf1; done)
      | skip
    cases hf1
    cases rv.int
    exact ⟨_, rfl, hk1.val g1 (.int _)⟩
theorem et_ife {c a b : Expr} {pos : Pos} {fc f g : Env → EM Bool} (hc : PT X c (tEvT W Wx fc)) (ha : PT X a (tEvT W Wx f)) (hb : PT X b (tEvT W Wx g)) : PT X (.IfExp c a b pos) (tEvT W Wx fun env => bindE (fc env) fun k => match k with
    | true => f env
    | false => g env) :=
  PT.imp (pt_ifExp hc ha hb) fun σ H Q ⟨S, μ, env, res, hS, hE, hf, hk⟩ => by
    refine tG.bind hS hE hf hk fun b μ1 S1 H1 l1 g1 e1 hf1 hk1 => okT_mk ?_
    cases b with
    | true => exact iT rfl ⟨S1, μ1, env, res, g1, e1, hf1, hk1⟩
    | false => exact iF Bool.false_ne_true ⟨S1, μ1, env, res, g1, e1, hf1, hk1⟩
end
end EG
namespace EG
open PySem L2
section
variable {Γ : Gam} {N : List Str} {W : Wd} {k : Nat}
theorem chks_stars : ∀ (as : Es) (es : List Expr) {sc : Scope}, chks Γ N sc as es = true → es.all notStar = true
  | .star _ _, es, sc, h => by
    unfold chks at h
    cases h
  | .nil, es, sc, h => by
    unfold chks at h
    cases es with
    | nil => rfl
    | cons e es => cases h
  | .cons a r, es, sc, h => by
    unfold chks at h
    cases es with
    | nil => cases h
    | cons e es =>
      simp only [Bool.and_eq_true] at h
      rw [List.all_cons, Bool.and_eq_true]
      exact ⟨h.2, chks_stars r es h.1.2⟩
theorem chkTag_star {sc : Scope} {t : Tag} {e : Expr} (h : chkTag Γ sc t e = true) : notStar e = true := by
  unfold chkTag at h
  split at h
  · rfl
  · cases h
/-- the arguments by place: none; the first one not starred; one starred alone -/
def UOk (W : Wd) (Wx : WX) (X : Cx) (es : List Expr) (A : Bs) : Prop := (es = [] ∧ A.s = fNil ∧ A.lone = none) ∨ (∃ e es', es = e :: es' ∧ notStar e = true ∧ A.lone = none ∧ PA X es (tEvs W Wx A.s)) ∨ (∃ e p es', es = .Starred e p :: es' ∧ (es' = [] → ∃ f, A.lone = some f ∧ PE X e (tEv W Wx f)))
mutual
theorem snd : ∀ (a : E) (e : Expr) (sc : Scope) (Wx : WX) (X : Cx), chk Γ N sc a e = true → XOk Γ N sc W Wx k X → PB W Wx X e (ev Γ a)
  | .v i, e, sc, Wx, X, h, hX => by
    unfold chk at h
    split at h
    · have q := var_of hX (pos := ‹Pos›) h
      have hb : PE X _ (tEvB W Wx (fVB i)) := ev_varB q
      exact ⟨ev_var q, hb, failL_of q, et_truth hX.hK hb (plainT_of rfl)⟩
    · cases h
  | .non, e, sc, Wx, X, h, hX => by
    unfold chk at h
    split at h
    · exact mkE_ok hX.hK rfl (ev_const pe_non fun _ _ => .non)
    · cases h
  | .bl b, e, sc, Wx, X, h, hX => by
    unfold chk at h
    split at h
    · rename_i c _ _
      have e : b = c := by simpa using h
      subst e
      exact mkE_ok hX.hK rfl (ev_const pe_bl fun _ _ => .bl _)
    · cases h
  | .int i, e, sc, Wx, X, h, hX => by
    unfold chk at h
    split at h
    · rename_i c _ _
      have e : i = c := by simpa using h
      subst e
      exact mkE_ok hX.hK rfl (ev_const pe_int fun _ _ => .int _)
    · cases h
  | .str s, e, sc, Wx, X, h, hX => by
    unfold chk at h
    split at h
    · simp only [Bool.and_eq_true, decide_eq_true_eq] at h
      obtain ⟨rfl, h2⟩ := h
      exact mkE_ok hX.hK rfl (ev_const pe_str fun _ _ => .str _ h2)
    · cases h
  | .gc i, e, sc, Wx, X, h, hX => by
    unfold chk at h
    cases h
  | .bin o a b, e, sc, Wx, X, h, hX => by
    unfold chk at h
    split at h
    · simp only [Bool.and_eq_true, decide_eq_true_eq] at h
      obtain ⟨⟨rfl, h2⟩, h3⟩ := h
      obtain ⟨r, r1, r2⟩ := bop_ok hX.hK o
      exact mkE_ok hX.hK rfl (ev_bin r1 r2 (snd a _ sc Wx X h2 hX).pb (snd b _ sc Wx X h3 hX).pb)
    · cases h
  | .neg a, e, sc, Wx, X, h, hX => by
    unfold chk at h
    split at h
    · exact mkE_ok hX.hK rfl (ev_neg (snd a _ sc Wx X h hX).pb)
    · cases h
  | .cmp o a b, e, sc, Wx, X, h, hX => by
    unfold chk at h
    split at h
    · simp only [Bool.and_eq_true, decide_eq_true_eq, Bool.not_eq_true'] at h
      obtain ⟨⟨⟨rfl, h2⟩, h3⟩, h4⟩ := h
      obtain ⟨r, r1, r2⟩ := cop_ok hX.hK (by have := hX.room.un; omega) o
      have pa := (snd a _ sc Wx X h2 hX).pb
      have pb := (snd b _ sc Wx X h3 hX).pb
      have q := ev_cmp (pos := ‹Pos›) r1 r2 pa pb h4
      exact ⟨q, toB q, failL_of q, et_cmp r1 r2 pa pb h4⟩
    · cases h
  | .chain o p a b c, e, sc, Wx, X, h, hX => by
    unfold chk at h
    cases h
  | .ban as, e, sc, Wx, X, h, hX => by
    unfold chk at h
    split at h
    · have q := snds as _ sc Wx X h hX
      have z := q.pan ‹Pos› (by simp)
      exact ⟨z, toB z, failL_of z, (q.panT _ (by simp)).pt⟩
    · cases h
  | .bor as, e, sc, Wx, X, h, hX => by
    unfold chk at h
    split at h
    · have q := snds as _ sc Wx X h hX
      have z := q.por ‹Pos› (by simp)
      exact ⟨z, toB z, failL_of z, (q.porT _ (by simp)).pt⟩
    · cases h
  | .nt a, e, sc, Wx, X, h, hX => by
    unfold chk at h
    split at h
    · have q := snd a _ sc Wx X h hX
      have z := ev_not (pos := ‹Pos›) q.pe
      exact ⟨z, toB z, failL_of z, et_not q.pt⟩
    · cases h
  | .ife c a b, e, sc, Wx, X, h, hX => by
    unfold chk at h
    split at h
    · simp only [Bool.and_eq_true] at h
      obtain ⟨⟨h1, h2⟩, h3⟩ := h
      have pc := snd c _ sc Wx X h1 hX
      have pa := snd a _ sc Wx X h2 hX
      have pb := snd b _ sc Wx X h3 hX
      have z := ev_ife (pos := ‹Pos›) pc.pt pa.pe pb.pe
      exact ⟨z, toB z, failL_of z, et_ife pc.pt pa.pt pb.pt⟩
    · cases h
  | .call f as, e, sc, Wx, X, h, hX => by
    unfold chk at h
    split at h
    · rename_i x p y r pos
      simp only [Bool.and_eq_true] at h
      obtain ⟨⟨h1, h2⟩, h3⟩ := h
      obtain ⟨a, b, _⟩ := isGl_of hX h1
      have hs := chks_stars as _ h2
      unfold ev
      cases q : Γ.fns[f]? with
      | none => rw [q] at h3; exact absurd h3 (by simp)
      | some g =>
        rw [q] at h3
        have e : g.name = x := of_decide_eq_true h3
        subst e
        obtain ⟨⟨f', fd, ps, dvs, dus, g1, g2, g3, g4, g5, g6⟩, hl⟩ := hX.fns f g q
        rw [List.all_cons, Bool.and_eq_true] at hs
        exact mkE_ok hX.hK rfl (ev_call g1 hX.tk (hX.room.mono hl) a g2 g3 g4 g5 g6 (snds as _ sc Wx X h2 hX).ps b (starEach_of hs.1) (noStars hs.2))
    · cases h
  | .mkX j as, e, sc, Wx, X, h, hX => by
    unfold chk at h
    split at h
    · rename_i x p es pos
      simp only [Bool.and_eq_true] at h
      obtain ⟨⟨h1, h2⟩, h3⟩ := h
      obtain ⟨a', b', _⟩ := isGl_of hX h1
      unfold ev
      cases q : Γ.exs[j]? with
      | none => rw [q] at h3; cases h3
      | some g =>
        rw [q] at h3
        have hn := of_decide_eq_true h3
        obtain ⟨G, l1⟩ := hX.exs j g q
        cases es with
        | nil =>
          cases as with
          | nil =>
            have e : (evs Γ Es.nil).s = fNil := by unfold evs; rfl
            simp only [e]
            exact mkE_ok hX.hK rfl (ev_mkX0 hX.hK G (hX.room.mono l1) a' hn b')
          | cons a r => unfold chks at h2; cases h2
          | star a r => unfold chks at h2; cases h2
        | cons y r =>
          have hs := chks_stars as _ h2
          rw [List.all_cons, Bool.and_eq_true] at hs
          exact mkE_ok hX.hK rfl (ev_mkX hX.hK G (hX.room.mono l1) a' hn (snds as _ sc Wx X h2 hX).ps b' (starEach_of hs.1) (noStars hs.2))
    · cases h
  | .mkXK j a, e, sc, Wx, X, h, hX => by
    unfold chk at h
    split at h
    · rename_i x p kn y kpos pos
      simp only [Bool.and_eq_true] at h
      obtain ⟨⟨h1, h2⟩, h3⟩ := h
      obtain ⟨a', b', _⟩ := isGl_of hX h1
      unfold ev
      cases q : Γ.exs[j]? with
      | none => rw [q] at h3; exact absurd h3 (by simp)
      | some g =>
        rw [q] at h3
        simp only [Bool.and_eq_true, decide_eq_true_eq] at h3
        obtain ⟨G, l1⟩ := hX.exs j g q
        exact mkE_ok hX.hK rfl (ev_mkXK hX.hK G (hX.room.mono l1) a' h3.1 h3.2 (snd a _ sc Wx X h2 hX).pe b')
    · cases h
  | .xf a f, e, sc, Wx, X, h, hX => by
    unfold chk at h
    split at h
    · simp only [Bool.and_eq_true, decide_eq_true_eq] at h
      obtain ⟨⟨rfl, h2⟩, h3⟩ := h
      exact mkE_ok hX.hK rfl (ev_xf hX.xt hX.hK (snd a _ sc Wx X h2 hX).pe (attrBase_of h3))
    · cases h
  | .isX t a, e, sc, Wx, X, h, hX => by
    unfold chk at h
    split at h
    · simp only [Bool.and_eq_true, decide_eq_true_eq] at h
      obtain ⟨⟨⟨⟨rfl, h2⟩, h3⟩, h4⟩, h5⟩ := h
      obtain ⟨a', b', _, d'⟩ := free_of hX h2
      have hz : notStar _ = true := chkTag_star h4
      exact mkE_ok hX.hK rfl (ev_isX hX.hK hX.isi hX.xt a' d' (snd a _ sc Wx X h3 hX).pe (tag_of hX h4) (starEach_of h5) (starEach_of hz))
    · cases h
  | .blt b as, e, sc, Wx, X, h, hX => by
    unfold chk at h
    split at h
    · simp only [Bool.and_eq_true, decide_eq_true_eq] at h
      obtain ⟨⟨h1, h2⟩, h3⟩ := h
      have hs := chks_stars as _ h3
      rw [List.all_cons, Bool.and_eq_true] at hs
      exact mkE_ok hX.hK rfl (blt_call hX b h1 h2 (snds as _ sc Wx X h3 hX).pb (starEach_of hs.1) (noStars hs.2))
    · cases h
  | .isi t a, e, sc, Wx, X, h, hX => by
    unfold chk at h
    split at h
    · simp only [Bool.and_eq_true, decide_eq_true_eq] at h
      obtain ⟨⟨⟨⟨rfl, h2⟩, h3⟩, h4⟩, h5⟩ := h
      obtain ⟨a', b', _, d'⟩ := free_of hX h2
      have hz : notStar _ = true := chkTag_star h4
      exact mkE_ok hX.hK rfl (ev_isi hX.hK hX.isi a' d' (snd a _ sc Wx X h3 hX).pb (tag_of hX h4) (starEach_of h5) (starEach_of hz))
    · cases h
  | .isiT ts a, e, sc, Wx, X, h, hX => by
    unfold chk at h
    split at h
    · simp only [Bool.and_eq_true, decide_eq_true_eq] at h
      obtain ⟨⟨⟨⟨⟨⟨rfl, h2⟩, h3⟩, h4⟩, h5⟩, h6⟩, h7⟩ := h
      obtain ⟨a', b', _, d'⟩ := free_of hX h2
      exact mkE_ok hX.hK rfl (ev_isiT hX.hK hX.isi a' d' (snd a _ sc Wx X h3 hX).pb (tags_of hX h4) h6 h7 (starEach_of h5))
    · cases h
  | .ix a b, e, sc, Wx, X, h, hX => by
    unfold chk at h
    split at h
    · simp only [Bool.and_eq_true] at h
      obtain ⟨⟨h1, h2⟩, h3⟩ := h
      exact mkE_ok hX.hK rfl (ev_ix hX.hK (snd a _ sc Wx X h1 hX).pb (snd b _ sc Wx X h2 hX).pb (plainIx_of h3))
    · cases h
  | .ixK a b, e, sc, Wx, X, h, hX => by
    unfold chk at h
    cases h
  | .sl a lo hi, e, sc, Wx, X, h, hX => by
    unfold chk at h
    cases h
  | .tup as, e, sc, Wx, X, h, hX => by
    unfold chk at h
    split at h
    · exact mkE_ok hX.hK rfl (ev_tup (snds as _ sc Wx X h hX).ps)
    · cases h
  | .lst as, e, sc, Wx, X, h, hX => by
    unfold chk at h
    split at h
    · exact mkL_ok hX.hK rfl (el_lst (snds as _ sc Wx X h hX).ps)
    · cases h
  | .lblt b as, e, sc, Wx, X, h, hX => by
    unfold chk at h
    split at h
    · simp only [Bool.and_eq_true, decide_eq_true_eq] at h
      obtain ⟨⟨h1, h2⟩, h3⟩ := h
      have hs := chks_stars as _ h3
      rw [List.all_cons, Bool.and_eq_true] at hs
      exact mkL_ok hX.hK rfl (lblt_call hX b h1 h2 (snds as _ sc Wx X h3 hX).pb (starEach_of hs.1) (noStars hs.2))
    · cases h
  | .lsl a lo hi, e, sc, Wx, X, h, hX => by
    unfold chk at h
    split at h
    · simp only [Bool.and_eq_true] at h
      obtain ⟨⟨h1, h2⟩, h3⟩ := h
      exact mkL_ok hX.hK rfl (el_sl hX.hK (snd a _ sc Wx X h1 hX).pb (sndo lo _ sc Wx X h2 hX) (sndo hi _ sc Wx X h3 hX))
    · cases h
  | .cat a b, e, sc, Wx, X, h, hX => by
    unfold chk at h
    split at h
    · simp only [Bool.and_eq_true] at h
      exact mkL_ok hX.hK rfl (el_bin op_cat os_cat (snd a _ sc Wx X h.1 hX).pb (snd b _ sc Wx X h.2 hX).pb)
    · cases h
  | .rep a b, e, sc, Wx, X, h, hX => by
    unfold chk at h
    split at h
    · simp only [Bool.and_eq_true] at h
      exact mkL_ok hX.hK rfl (el_bin op_rep os_rep (snd a _ sc Wx X h.1 hX).pb (snd b _ sc Wx X h.2 hX).pb)
    · cases h
  | .comp own p s c el, e, sc, Wx, X, h, hX => by
    unfold chk at h
    split at h
    · rename_i x tg iter ifs scope pos
      simp only [Bool.and_eq_true] at h
      obtain ⟨⟨⟨⟨⟨⟨h1, h2⟩, h3⟩, h4⟩, h5⟩, h6⟩, h7⟩ := h
      obtain ⟨h2, hnm⟩ := h2
      have bk : BlkOk X.N X.env.scope scope own := by rw [hX.hN]; exact blkOk_scopes (blkOk_by h2) hX.hlk
      refine mkL_ok hX.hK rfl (el_comp hX.calm (by rw [hX.hN]; exact hX.nd) (sndr s _ _ sc Wx X h1 hX).1 bk (fun i hi => ?_) (fun s H C cl fp => pat_of (hX.blk s H _ C cl fp hnm) p _ h4) (fun s H C cl fp => sndc c _ _ Wx0 _ h5 (hX.blk s H _ C cl fp hnm)) (fun s H C cl fp => (snd el _ _ Wx0 _ h6 (hX.blk s H _ C cl fp hnm)).pe) (folded_of h7))
      have := List.all_eq_true.mp h3 i hi
      simpa using this
    · cases h
  | .fld a f, e, sc, Wx, X, h, hX => by
    unfold chk at h
    cases h
  | .prop j a, e, sc, Wx, X, h, hX => by
    unfold chk at h
    cases h
  | .meth j a as, e, sc, Wx, X, h, hX => by
    unfold chk at h
    cases h
  | .make j as kws, e, sc, Wx, X, h, hX => by
    unfold chk at h
    cases h
  | .eqo j a b, e, sc, Wx, X, h, hX => by
    unfold chk at h
    cases h
  | .compz own p a b c el, e, sc, Wx, X, h, hX => by
    unfold chk at h
    cases h
  | .compm own p a c el, e, sc, Wx, X, h, hX => by
    unfold chk at h
    cases h
  | .orn a, e, sc, Wx, X, h, hX => by
    unfold chk at h
    cases h
  | .nev, e, sc, Wx, X, h, hX => pb_fail
  | .nc a, e, sc, Wx, X, h, hX => by
    unfold chk at h
    split at h
    · unfold ev
      exact mkE_ok hX.hK rfl (ev_newc (snd a _ sc Wx X h hX).pl)
    · rw [Bool.and_eq_true] at h
      unfold ev
      exact mkE_ok hX.hK rfl (ev_newc (snd a _ sc Wx X h.2 hX).pl)
    · unfold ev
      exact mkE_ok hX.hK rfl (ev_newc (snd a _ sc Wx X h hX).pl)
    · rw [Bool.and_eq_true] at h
      unfold ev
      exact mkE_ok hX.hK rfl (ev_newc (snd a _ sc Wx X h.2 hX).pl)
    · cases h
  | .tupS as, e, sc, Wx, X, h, hX => by
    unfold chk at h
    cases h
  | .lstS as, e, sc, Wx, X, h, hX => by
    unfold chk at h
    cases h
  | .invF j as kws, e, sc, Wx, X, h, hX => by
    unfold chk at h
    cases h
  | .invO j o as kws, e, sc, Wx, X, h, hX => by
    unfold chk at h
    cases h
  | .invL j i as kws, e, sc, Wx, X, h, hX => by
    unfold chk at h
    cases h
  | .lam n, e, sc, Wx, X, h, hX => by
    unfold chk at h
    cases h
  | .callH f as, e, sc, Wx, X, h, hX => by
    unfold chk at h
    cases h
  | .callZ f as, e, sc, Wx, X, h, hX => by
    unfold chk at h
    cases h
  | .lr1 a, e, sc, Wx, X, h, hX => by
    unfold chk at h
    cases h
  | .lr2 a b, e, sc, Wx, X, h, hX => by
    unfold chk at h
    cases h
  | .co j f as, e, sc, Wx, X, h, hX => by
    unfold chk at h
    cases h
  | .kc j as kws, e, sc, Wx, X, h, hX => by
    unfold chk at h
    cases h
  | .km j o as kws, e, sc, Wx, X, h, hX => by
    unfold chk at h
    cases h
  | .ks j as kws, e, sc, Wx, X, h, hX => by
    unfold chk at h
    cases h
  | .neo j a b, e, sc, Wx, X, h, hX => by
    unfold chk at h
    cases h
  | .o1 j a, e, sc, Wx, X, h, hX => by
    unfold chk at h
    cases h
  | .o1t j a, e, sc, Wx, X, h, hX => by
    unfold chk at h
    cases h
  | .inT neg n a, e, sc, Wx, X, h, hX => by
    unfold chk at h
    cases h
  | .inO neg j a b, e, sc, Wx, X, h, hX => by
    unfold chk at h
    cases h
  | .rev a, e, sc, Wx, X, h, hX => by
    unfold chk at h
    cases h
  | .opA j a b, e, sc, Wx, X, h, hX => by
    unfold chk at h
    cases h
  | .cv j, e, sc, Wx, X, h, hX => by
    unfold chk at h
    cases h
  | .joi a b, e, sc, Wx, X, h, hX => by
    unfold chk at h
    cases h
  | .spl a b, e, sc, Wx, X, h, hX => by
    unfold chk at h
    cases h
  | .wIn neg j a, e, sc, Wx, X, h, hX => by
    unfold chk at h
    cases h
  | .wIx j a, e, sc, Wx, X, h, hX => by
    unfold chk at h
    cases h
  | .wGet j a b, e, sc, Wx, X, h, hX => by
    unfold chk at h
    cases h
  | .comp2 own p s c p1 s1 c1 el, e, sc, Wx, X, h, hX => by
    unfold chk at h
    cases h
  | .fs as, e, sc, Wx, X, h, hX => by
    unfold chk at h
    cases h
theorem sndS : ∀ (as : Es) (es : List Expr) (sc : Scope) (Wx : WX) (X : Cx), chksS Γ N sc as es = true → XOk Γ N sc W Wx k X → PA X es (tEvs W Wx (evs Γ as).s)
  | .nil, es, sc, Wx, X, h, hX => by
    unfold chksS at h
    cases es with
    | nil => exact ea_nil
    | cons e es => cases h
  | .cons a r, es, sc, Wx, X, h, hX => by
    unfold chksS at h
    cases es with
    | nil => cases h
    | cons e es =>
      simp only [Bool.and_eq_true] at h
      exact ea_cons (snd a e sc Wx X h.1.1 hX).pe (sndS r es sc Wx X h.1.2 hX) (starEach_of h.2)
  | .star a r, es, sc, Wx, X, h, hX => by
    unfold chksS at h
    cases es with
    | nil => cases h
    | cons e es =>
      rw [Bool.and_eq_true] at h
      obtain ⟨h1, h2⟩ := h
      split at h1
      · exact ea_star hX.hK (snd a _ sc Wx X h1 hX).pe (sndS r es sc Wx X h2 hX)
      · cases h1
theorem sndU : ∀ (as : Es) (es : List Expr) (sc : Scope) (Wx : WX) (X : Cx), chksS Γ N sc as es = true → XOk Γ N sc W Wx k X → UOk W Wx X es (evs Γ as)
  | .nil, es, sc, Wx, X, h, hX => by
    unfold chksS at h
    cases es with
    | nil => exact .inl ⟨rfl, rfl, rfl⟩
    | cons e es => cases h
  | .cons a r, es, sc, Wx, X, h, hX => by
    unfold chksS at h
    cases es with
    | nil => cases h
    | cons e es =>
      simp only [Bool.and_eq_true] at h
      exact .inr (.inl ⟨e, es, rfl, h.2, rfl, ea_cons (snd a e sc Wx X h.1.1 hX).pe (sndS r es sc Wx X h.1.2 hX) (starEach_of h.2)⟩)
  | .star a r, es, sc, Wx, X, h, hX => by
    unfold chksS at h
    cases es with
    | nil => cases h
    | cons e es =>
      rw [Bool.and_eq_true] at h
      obtain ⟨h1, h2⟩ := h
      split at h1
      · refine .inr (.inr ⟨_, _, es, rfl, fun z => ?_⟩)
        subst z
        cases r with
        | nil => exact ⟨_, rfl, (snd a _ sc Wx X h1 hX).pe⟩
        | cons _ _ => unfold chksS at h2; cases h2
        | star _ _ => unfold chksS at h2; cases h2
      · cases h1
theorem sndf : ∀ (as : Es) (es : List Expr) (sc : Scope) (Wx : WX) (X : Cx), chkf Γ N sc as es = true → XOk Γ N sc W Wx k X → PFs W Wx X es (evf Γ as)
  | .star _ _, es, sc, Wx, X, h, hX => by
    unfold chkf at h
    cases h
  | .nil, es, sc, Wx, X, h, hX => by
    unfold chkf at h
    cases es with
    | nil => unfold evf; exact pf_nil
    | cons e es => cases h
  | .cons a r, es, sc, Wx, X, h, hX => by
    unfold chkf at h
    cases es with
    | nil => cases h
    | cons e es =>
      simp only [Bool.and_eq_true] at h
      obtain ⟨h1, h2⟩ := h
      unfold evf
      split at h1
      · rename_i x c sp p
        simp only [Bool.and_eq_true, beq_iff_eq] at h1
        obtain ⟨⟨c1, c2⟩, c3⟩ := h1
        subst c1
        cases sp with
        | some _ => cases c2
        | none => exact pf_fmt (snd a _ sc Wx X c3 hX).pb (sndf r es sc Wx X h2 hX)
      · rename_i t j p
        cases a with
        | str s =>
          have e : s = t := of_decide_eq_true h1
          subst e
          unfold ev
          exact pf_con (sndf r es sc Wx X h2 hX)
        | _ => cases h1
      · cases h1
theorem sndk : ∀ (as : Es) (ks : List Keyword) (sc : Scope) (Wx : WX) (X : Cx), chkk Γ N sc as ks = true → XOk Γ N sc W Wx k X → PK X ks (tEvs W Wx (evs Γ as).s)
  | .star _ _, ks, sc, Wx, X, h, hX => by
    unfold chkk at h
    cases h
  | .nil, ks, sc, Wx, X, h, hX => by
    unfold chkk at h
    cases ks with
    | nil => exact ek_nil
    | cons e es => cases h
  | .cons a r, ks, sc, Wx, X, h, hX => by
    unfold chkk at h
    cases ks with
    | nil => cases h
    | cons kw ks =>
      obtain ⟨nm, e, kp⟩ := kw
      rw [Bool.and_eq_true] at h
      exact ek_cons (snd a e sc Wx X h.1 hX).pe (sndk r ks sc Wx X h.2 hX)
theorem snds : ∀ (as : Es) (es : List Expr) (sc : Scope) (Wx : WX) (X : Cx), chks Γ N sc as es = true → XOk Γ N sc W Wx k X → PBs W Wx X es (evs Γ as)
  | .star _ _, es, sc, Wx, X, h, hX => by
    unfold chks at h
    cases h
  | .nil, es, sc, Wx, X, h, hX => by
    unfold chks at h
    cases es with
    | cons e es => cases h
    | nil => exact ⟨ea_nil, eb_nil, fun _ z => absurd rfl z, fun _ z => absurd rfl z, fun _ z => absurd rfl z, fun _ z => absurd rfl z⟩
  | .cons a r, es, sc, Wx, X, h, hX => by
    unfold chks at h
    cases es with
    | nil => cases h
    | cons e es =>
      simp only [Bool.and_eq_true] at h
      obtain ⟨⟨h1, h2⟩, h3⟩ := h
      have pa := snd a e sc Wx X h1 hX
      have pr := snds r es sc Wx X h2 hX
      refine ⟨ea_cons pa.pe pr.ps (starEach_of h3), eb_cons pa.pb pr.pb (starEach_of h3), fun pos _ => ?_, fun pos _ => ?_, fun pos _ => ?_, fun pos _ => ?_⟩
      all_goals
        cases r with
        | star _ _ => unfold chks at h2; cases h2
        | nil =>
          cases es with
          | nil => first | exact ev_one pa.pe | exact ew_and1 pa.pt | exact ew_or1 pa.pt
          | cons e' es => unfold chks at h2; cases h2
        | cons a' r' =>
          cases es with
          | nil => unfold chks at h2; cases h2
          | cons e' es => first | exact ev_and pa.pe (pr.pan pos (by simp)) | exact ew_and pa.pt (pr.panT pos (by simp)) | exact ev_or pa.pe (pr.por pos (by simp)) | exact ew_or pa.pt (pr.porT pos (by simp))
theorem sndo : ∀ (o : Oe) (e : Option Expr) (sc : Scope) (Wx : WX) (X : Cx), chko Γ N sc o e = true → XOk Γ N sc W Wx k X → POe W Wx X e (evo Γ o).1
  | .none, e, sc, Wx, X, h, hX => by
    unfold chko at h
    cases e with
    | none => exact eo_none
    | some e => cases h
  | .some a, e, sc, Wx, X, h, hX => by
    unfold chko at h
    cases e with
    | none => cases h
    | some e => exact eo_some (snd a e sc Wx X h hX).pb
theorem sndc : ∀ (o : Oe) (es : List Expr) (sc : Scope) (Wx : WX) (X : Cx), chkc Γ N sc o es = true → XOk Γ N sc W Wx k X → PTs X es (tEvT W Wx (evo Γ o).2)
  | .none, es, sc, Wx, X, h, hX => by
    unfold chkc at h
    cases es with
    | nil => exact ets_nil
    | cons e es => cases h
  | .some a, es, sc, Wx, X, h, hX => by
    unfold chkc at h
    split at h
    · exact ets_one (snd a _ sc Wx X h hX).pt
    · cases h
theorem sndr : ∀ (s : Sr) (tg e : Expr) (sc : Scope) (Wx : WX) (X : Cx), chkr Γ N sc s tg e = true → XOk Γ N sc W Wx k X → PI X tg e (tSrc' W Wx kE (evr Γ s)) ∧ (notOwn s = true → ∀ kk : Own → Prop, PI X tg e (tSrc' W Wx kk (evr Γ s)))
  | .seq a, tg, e, sc, Wx, X, h, hX => by
    unfold chkr at h
    exact ⟨src_seq hX.hK (snd a e sc Wx X h hX).pe, fun _ kk => src_seq hX.hK (snd a e sc Wx X h hX).pe⟩
  | .own a, tg, e, sc, Wx, X, h, hX => by
    unfold chkr at h
    exact ⟨src_own hX.hK (snd a e sc Wx X h hX).pb, fun h => nomatch h⟩
  | .rng1 a, tg, e, sc, Wx, X, h, hX => by
    unfold chkr at h
    split at h
    · simp only [Bool.and_eq_true, decide_eq_true_eq] at h
      obtain ⟨⟨⟨rfl, h2⟩, h3⟩, h4⟩ := h
      obtain ⟨a', b', _, d'⟩ := free_of hX h2
      exact ⟨src_range1 a' d' (eb_cons (snd a _ sc Wx X h3 hX).pb eb_nil (starEach_of h4)) (starEach_of h4), fun _ kk => src_range1 a' d' (eb_cons (snd a _ sc Wx X h3 hX).pb eb_nil (starEach_of h4)) (starEach_of h4)⟩
    · cases h
  | .rng2 a b, tg, e, sc, Wx, X, h, hX => by
    unfold chkr at h
    split at h
    · simp only [Bool.and_eq_true, decide_eq_true_eq] at h
      obtain ⟨⟨⟨⟨⟨rfl, h2⟩, h3⟩, h4⟩, h5⟩, h6⟩ := h
      obtain ⟨a', b', _, d'⟩ := free_of hX h2
      exact ⟨src_range2 a' d' (eb_cons (snd a _ sc Wx X h3 hX).pb (eb_cons (snd b _ sc Wx X h4 hX).pb eb_nil (starEach_of h6)) (starEach_of h5)) (by rw [starEach_of h5, starEach_of h6]; rfl) (starEach_of h6), fun _ kk => src_range2 a' d' (eb_cons (snd a _ sc Wx X h3 hX).pb (eb_cons (snd b _ sc Wx X h4 hX).pb eb_nil (starEach_of h6)) (starEach_of h5)) (by rw [starEach_of h5, starEach_of h6]; rfl) (starEach_of h6)⟩
    · cases h
  | .str a, tg, e, sc, Wx, X, h, hX => by
    unfold chkr at h
    exact ⟨src_str (snd a e sc Wx X h hX).pb, fun _ kk => src_str (snd a e sc Wx X h hX).pb⟩
  | .enum a, tg, e, sc, Wx, X, h, hX => by
    unfold chkr at h
    split at h
    · simp only [Bool.and_eq_true, decide_eq_true_eq] at h
      obtain ⟨⟨⟨rfl, h2⟩, h3⟩, h4⟩ := h
      obtain ⟨a', b', _, d'⟩ := free_of hX h2
      exact ⟨src_enum hX.hK a' d' (ea_cons (snd a _ sc Wx X h3 hX).pe ea_nil (starEach_of h4)) (starEach_of h4), fun _ kk => src_enum hX.hK a' d' (ea_cons (snd a _ sc Wx X h3 hX).pe ea_nil (starEach_of h4)) (starEach_of h4)⟩
    · cases h
  | .zip a b, tg, e, sc, Wx, X, h, hX => by
    unfold chkr at h
    split at h
    · simp only [Bool.and_eq_true, decide_eq_true_eq] at h
      obtain ⟨⟨⟨⟨⟨rfl, h2⟩, h3⟩, h4⟩, h5⟩, h6⟩ := h
      obtain ⟨a', b', _, d'⟩ := free_of hX h2
      exact ⟨src_zip hX.hK a' d' (ea_cons (snd a _ sc Wx X h3 hX).pe (ea_cons (snd b _ sc Wx X h4 hX).pe ea_nil (starEach_of h6)) (starEach_of h5)) (starEach_of h5) (by rw [starEach_of h6]; rfl), fun _ kk => src_zip hX.hK a' d' (ea_cons (snd a _ sc Wx X h3 hX).pe (ea_cons (snd b _ sc Wx X h4 hX).pe ea_nil (starEach_of h6)) (starEach_of h5)) (starEach_of h5) (by rw [starEach_of h6]; rfl)⟩
    · cases h
  | .zip3 a b c, tg, e, sc, Wx, X, h, hX => by
    unfold chkr at h
    split at h
    · simp only [Bool.and_eq_true, decide_eq_true_eq] at h
      obtain ⟨⟨⟨rfl, h2⟩, ⟨h3, h4⟩, h5⟩, ⟨h6, h7⟩, h8⟩ := h
      obtain ⟨a', b', _, d'⟩ := free_of hX h2
      exact ⟨src_zip3 hX.hK a' d' (ea_cons (snd a _ sc Wx X h3 hX).pe (ea_cons (snd b _ sc Wx X h4 hX).pe (ea_cons (snd c _ sc Wx X h5 hX).pe ea_nil (starEach_of h8)) (starEach_of h7)) (starEach_of h6)) (starEach_of h6) (by rw [starEach_of h7, starEach_of h8]; rfl), fun _ kk => src_zip3 hX.hK a' d' (ea_cons (snd a _ sc Wx X h3 hX).pe (ea_cons (snd b _ sc Wx X h4 hX).pe (ea_cons (snd c _ sc Wx X h5 hX).pe ea_nil (starEach_of h8)) (starEach_of h7)) (starEach_of h6)) (starEach_of h6) (by rw [starEach_of h7, starEach_of h8]; rfl)⟩
    · cases h
end
theorem sndrS {kk : Own → Prop} : ∀ (s : Sr) (tg e : Expr) (sc : Scope) (Wx : WX) (X : Cx), chkr Γ N sc s tg e = true → notOwn s = true → XOk Γ N sc W Wx k X → PI X tg e (tSrc' W Wx kk (evr Γ s))
  | .seq a, tg, e, sc, Wx, X, h, ho, hX => by
    unfold chkr at h
    exact src_seq hX.hK (snd a e sc Wx X h hX).pe
  | .own a, tg, e, sc, Wx, X, h, ho, hX => by
    cases ho
  | .rng1 a, tg, e, sc, Wx, X, h, ho, hX => by
    unfold chkr at h
    split at h
    · simp only [Bool.and_eq_true, decide_eq_true_eq] at h
      obtain ⟨⟨⟨rfl, h2⟩, h3⟩, h4⟩ := h
      obtain ⟨a', b', _, d'⟩ := free_of hX h2
      exact src_range1 a' d' (eb_cons (snd a _ sc Wx X h3 hX).pb eb_nil (starEach_of h4)) (starEach_of h4)
    · cases h
  | .rng2 a b, tg, e, sc, Wx, X, h, ho, hX => by
    unfold chkr at h
    split at h
    · simp only [Bool.and_eq_true, decide_eq_true_eq] at h
      obtain ⟨⟨⟨⟨⟨rfl, h2⟩, h3⟩, h4⟩, h5⟩, h6⟩ := h
      obtain ⟨a', b', _, d'⟩ := free_of hX h2
      exact src_range2 a' d' (eb_cons (snd a _ sc Wx X h3 hX).pb (eb_cons (snd b _ sc Wx X h4 hX).pb eb_nil (starEach_of h6)) (starEach_of h5)) (by rw [starEach_of h5, starEach_of h6]; rfl) (starEach_of h6)
    · cases h
  | .str a, tg, e, sc, Wx, X, h, ho, hX => by
    unfold chkr at h
    exact src_str (snd a e sc Wx X h hX).pb
  | .enum a, tg, e, sc, Wx, X, h, ho, hX => by
    unfold chkr at h
    split at h
    · simp only [Bool.and_eq_true, decide_eq_true_eq] at h
      obtain ⟨⟨⟨rfl, h2⟩, h3⟩, h4⟩ := h
      obtain ⟨a', b', _, d'⟩ := free_of hX h2
      exact src_enum hX.hK a' d' (ea_cons (snd a _ sc Wx X h3 hX).pe ea_nil (starEach_of h4)) (starEach_of h4)
    · cases h
  | .zip a b, tg, e, sc, Wx, X, h, ho, hX => by
    unfold chkr at h
    split at h
    · simp only [Bool.and_eq_true, decide_eq_true_eq] at h
      obtain ⟨⟨⟨⟨⟨rfl, h2⟩, h3⟩, h4⟩, h5⟩, h6⟩ := h
      obtain ⟨a', b', _, d'⟩ := free_of hX h2
      exact src_zip hX.hK a' d' (ea_cons (snd a _ sc Wx X h3 hX).pe (ea_cons (snd b _ sc Wx X h4 hX).pe ea_nil (starEach_of h6)) (starEach_of h5)) (starEach_of h5) (by rw [starEach_of h6]; rfl)
    · cases h
  | .zip3 a b c, tg, e, sc, Wx, X, h, ho, hX => by
    unfold chkr at h
    split at h
    · simp only [Bool.and_eq_true, decide_eq_true_eq] at h
      obtain ⟨⟨⟨rfl, h2⟩, ⟨h3, h4⟩, h5⟩, ⟨h6, h7⟩, h8⟩ := h
      obtain ⟨a', b', _, d'⟩ := free_of hX h2
      exact src_zip3 hX.hK a' d' (ea_cons (snd a _ sc Wx X h3 hX).pe (ea_cons (snd b _ sc Wx X h4 hX).pe (ea_cons (snd c _ sc Wx X h5 hX).pe ea_nil (starEach_of h8)) (starEach_of h7)) (starEach_of h6)) (starEach_of h6) (by rw [starEach_of h7, starEach_of h8]; rfl)
    · cases h
end
end EG
namespace EG
open PySem L2

/-! new cells, writes -/
section
variable {W : Wd} {S S' S1 : Ws} {H H' H1 : Hp} {σ : St} {env : Env} {μ : Mu} {Wx : WX} {α β : Type} {X : Cx} {Dn : Ends}
/-- a cell is written -/
theorem cell_write {n : Nat} {a : Addr} {c : Cell} {o : HO} (g : Sg W S H μ) (e1 : S.ρ[n]? = some a) (e2 : S.Ow a = some (.cell n)) (hn : n < μ.length) (r : CellRep W S (upd H a o) a c) : LtE S H S (upd H a o) ∧ Sg W S (upd H a o) (μ.set n c) := by
  have lt : LtE S H S (upd H a o) := by
    refine ⟨fun b u e q => ?_, fun b w e k => ?_, fun m b e q => ⟨e, q⟩, upd_mem⟩
    · have : b ≠ a := fun z => by rw [z, e2] at e; cases e
      rw [upd_ne this]; exact ⟨e, q⟩
    · have : b ≠ a := fun z => by rw [z, e2] at e; cases e; exact k
      rw [upd_ne this]; exact ⟨e, rfl⟩
  refine ⟨lt, fun b w e => ?_, by rw [List.length_set]; exact g.len, fun m c' e hi => ?_, ?_⟩
  · by_cases h : b = a
    · subst h; exact ⟨o, upd_same⟩
    · obtain ⟨u, q⟩ := g.wf b w e
      exact ⟨u, by rw [upd_ne h]; exact q⟩
  · by_cases hm : m = n
    · subst hm
      rw [List.getElem?_set_self hn] at e
      cases e
      exact ⟨a, e1, e2, r⟩
    · rw [List.getElem?_set_ne (Ne.symm hm)] at e
      obtain ⟨b, h1, h2, r'⟩ := g.cells m c' e hi
      have hb : b ≠ a := fun z => by rw [z, e2] at h2; cases h2; exact hm rfl
      exact ⟨b, h1, h2, r'.later lt (by rw [upd_ne hb])⟩
  · refine g.ext.keep lt.dat lt.cel (fun b w e h => ?_) fun z e => ?_
    · have : b ≠ a := fun z => by rw [z, e2] at e; cases e; cases h
      exact ⟨e, by rw [upd_ne this]⟩
    · by_cases h0 : n = 0
      · subst h0
        rw [List.getElem?_set_self hn] at e
        cases e
        exact r.elim
      · rw [List.getElem?_set_ne h0] at e
        exact e
/-- an own thing of a local is written -/
theorem own_write {i : Nat} {a : Addr} {c c0 : Cell} {o : HO} (g : Sg W S H μ) (hE : EnvOk W S H σ env) (h0 : env[i]? = some (.own c0)) (hv : σ[i]? = some (some (.ref a))) (ho : S.Ow a = some (.slot i)) (r : CellRep W S (upd H a o) a c) :
    LtS S H S (upd H a o) ∧ Sg W S (upd H a o) μ ∧ EnvOk W S (upd H a o) σ (env.set i (.own c)) := by
  have lt : Lt (fun w => w ≠ .slot i) S H S (upd H a o) := by
    refine ⟨fun b u e q => ?_, fun b w e k => ?_, fun m b e q => ⟨e, q⟩, upd_mem⟩
    · have : b ≠ a := fun z => by rw [z, ho] at e; cases e
      rw [upd_ne this]; exact ⟨e, q⟩
    · have : b ≠ a := fun z => by rw [z, ho] at e; cases e; exact k rfl
      rw [upd_ne this]; exact ⟨e, rfl⟩
  refine ⟨⟨lt.dat, fun b w q k => lt.own b w q (by rintro rfl; exact k), lt.cel, lt.mem⟩, g.own_write ho (fun n z => nomatch z), by rw [List.length_set]; exact hE.len, fun j sl e => ?_⟩
  by_cases hj : j = i
  · subst hj
    have hl : j < env.length := (List.getElem?_eq_some_iff.mp h0).1
    rw [List.getElem?_set_self hl] at e
    cases e
    exact ⟨a, hv, ho, r⟩
  · rw [List.getElem?_set_ne (Ne.symm hj)] at e
    have z := hE.at_ j sl e
    cases sl with
    | no => trivial
    | v d => obtain ⟨v, e, r⟩ := z; exact ⟨v, e, r.later lt⟩
    | own c =>
      obtain ⟨b, e, o', r⟩ := z
      obtain ⟨q1, q2⟩ := lt.own b _ o' (fun z => hj (by cases z; rfl))
      exact ⟨b, e, q1, r.later lt q2⟩
/-! o[i] = e -/
def setAt (xs : List D) (i : D) (d : D) : Option (List D) := match i with
  | .int k => (ixN xs.length k).map fun j => xs.set j d
  | _ => none
/-- o a cell -/
def fSetC (o i e : Env → EM D) : SM := liftE e fun d => liftE o fun x => liftE i fun y => fun env μ => match x with
  | .cell n => match μ[n]? with
    | some (.lst xs) => match setAt xs y d with
      | some ys => some (.nx env, μ.set n (.lst ys))
      | none => none
    | _ => none
  | _ => none
theorem setAt_rep {vs : List V} {xs ys : List D} {y d : D} {v : V} {iv : V} (h : RepVs W S H vs xs) (rd : RepV W S H v d) (ri : RepB W S H iv y) (e : setAt xs y d = some ys) : ∃ k j, iv = .int k ∧ ixN vs.length k = some j ∧ RepVs W S H (vs.set j v) ys := by
  unfold setAt at e
  split at e
  · rename_i k
    obtain ⟨j, hj, rfl⟩ := map_some e
    exact ⟨k, j, ri.int, by rw [h.length]; exact hj, h.set rd j⟩
  · cases e
theorem asgSub_of {o i : Expr} {p : Pos} {env : PySem.Env} (h : notSlice i = true) : ∀ v, assign (.Subscript o i p) env v = (holding [v] (eval o env) >>= fun a => holding [v, a] (eval i env) >>= fun b => standAt p >>= fun _ => holding [v, a, b] (setItem a b v) >>= fun _ => release [v, a, b] []) := by
  cases i <;> first | (intro v; rfl) | cases h
theorem swapsSole_of {t e : Expr} {l : Nat} {env : PySem.Env} (h : notComp e = true) : swapsWithSole [t] e l env = pure false := swaps_of h
theorem tG.lift' {f : Env → EM α} {k : α → SM} {ok : α → Ws → Hp → Prop} {r : SO × Mu} (hS : Sg W S H μ) (hE : EnvOk W S H σ env) (hf : liftE f k env μ = some r) (hk : KS W S H Wx Dn r)
    (hR : ∀ a μ1 S1 H1, LtE S H S1 H1 → Sg W S1 H1 μ1 → EnvOk W S1 H1 σ env → k a env μ1 = some r → KS W S1 H1 Wx Dn r → ok a S1 H1) : tG W Wx f ok σ H := by
  unfold liftE at hf
  cases e : f env μ with
  | none => rw [e] at hf; cases hf
  | some q =>
    obtain ⟨o, μ1⟩ := q
    rw [e] at hf
    refine ⟨S, μ, env, _, hS, hE, e, ?_⟩
    cases o with
    | ok a => exact fun S' H' l g => hR a μ1 S' H' l g (hE.laterE l) hf (hk.later l.toS)
    | exc c fs =>
      cases hf
      exact fun S' H' dd vs l g h1 h2 h3 => hk S' H' σ dd vs l.toS g (hE.laterE l) h1 h2 h3
theorem es_setC {o i e : Expr} {p pos : Pos} {fo fi fe : Env → EM D} (he : PE X e (tEv W Wx fe)) (ho : PE X o (tEvB W Wx fo)) (hi : PE X i (tEvB W Wx fi)) (hns : notSlice i = true) (hc : notComp e = true) :
    PS X (.Assign [.Subscript o i p] e pos) (tSt W Wx (fSetC fo fi fe)) :=
  PS.imp (ps_asg he (pg_sub ho hi set_list (asgSub_of hns)) (swapsSole_of hc) (swapped_of rfl)) fun D σ H ⟨S, μ, env, r, hS, hE, hf, hk⟩ => by
    refine tG.lift' hS hE hf hk fun d μ1 S1 H1 l1 g1 e1 hf1 hk1 v rv => ?_
    refine tG.lift' g1 e1 hf1 hk1 fun x μ2 S2 H2 l2 g2 e2 hf2 hk2 ov ro => ?_
    refine tG.lift' g2 e2 hf2 hk2 fun y μ3 S3 H3 l3 g3 e3 hf3 hk3 iv ri => ?_
    have rv := (rv.later l2).later l3
    have ro := ro.laterE l3
    cases x with
    | cell n =>
      simp only at hf3
      cases q : μ3[n]? with
      | none => rw [q] at hf3; cases hf3
      | some c =>
        rw [q] at hf3
        cases c with
        | lst xs =>
          simp only at hf3
          cases z : setAt xs y d with
          | none => rw [z] at hf3; cases hf3
          | some ys =>
            rw [z] at hf3
            cases hf3
            obtain ⟨a, rfl, a1, a2⟩ := ro.cell
            obtain ⟨a', b1, b2, vs, b3, b4, b5⟩ := g3.cells n _ q rfl
            rw [a1] at b1; cases b1
            obtain ⟨k, j, rfl, hj, rys⟩ := setAt_rep b5 rv ri z
            refine ⟨a, vs, k, j, rfl, rfl, b3, hj, ?_⟩
            have hn : n < μ3.length := (List.getElem?_eq_some_iff.mp q).1
            have lw : Lt (fun _ => False) S3 H3 S3 (upd H3 a (.lst (vs.set j v))) := by
              refine ⟨fun b u e q => ?_, fun _ _ _ h => h.elim, fun m b e q => ⟨e, q⟩, upd_mem⟩
              have : b ≠ a := fun z => by rw [z, a2] at e; cases e
              rw [upd_ne this]; exact ⟨e, q⟩
            obtain ⟨lt, gw⟩ := cell_write (c := .lst ys) (o := .lst (vs.set j v)) g3 a1 a2 hn ⟨_, upd_same, by rw [List.length_set]; exact b4, rys.later lw⟩
            exact hk3 S3 _ σ lt.toS gw (e3.laterE lt)
        | obj _ _ => cases hf3
        | dK _ => cases hf3
        | dT _ => cases hf3
        | cap _ => cases hf3
        | tbl _ _ => cases hf3
    | _ => cases hf3
/-- x's own list: x[i] = e -/
def ownL (n : Nat) (k : List D → SM) : SM := fun env μ => match env[n]? with
  | some (.own (.lst xs)) => k xs env μ
  | _ => none
def fSetI (n : Nat) (i e : Env → EM D) : SM := liftE e fun d => ownL n fun xs => liftE i fun y => fun env μ => match setAt xs y d with
    | some ys => some (.nx (env.set n (.own (.lst ys))), μ)
    | none => none
/-! x.append(e), x.extend(e) -/
def fApp (n : Nat) (e : Env → EM D) : SM := ownL n fun xs => liftE e fun d => fun env μ => if xs.length < big then some (.nx (env.set n (.own (.lst (xs ++ [d])))), μ) else none
def fExt (n : Nat) (e : Env → EM D) : SM := ownL n fun xs => liftE e fun d => fun env μ => match lstD d μ with
  | some ys => if xs.length + ys.length ≤ big then some (.nx (env.set n (.own (.lst (xs ++ ys)))), μ) else none
  | none => none
/-! a, b = e, f (two plain names: no tuple) -/
def fPar (i j : Nat) (e f : Env → EM D) : SM := liftE e fun d => liftE f fun d' => fun env μ => some (.nx ((env.set i (.v d)).set j (.v d')), μ)
theorem es_par {i j : Nat} {x y : Str} {a b : Expr} {px py pt pt2 pos : Pos} {kt k2 : Nat} {fa fb : Env → EM D} (hc : X.calm = true) (hN : X.N.Nodup) (hi : X.N[i]? = some x) (hj : X.N[j]? = some y) (hij : i ≠ j)
    (hx : X.env.scope.names.lookup x = some .local) (hy : X.env.scope.names.lookup y = some .local) (ha : PE X a (tEv W Wx fa)) (hb : PE X b (tEv W Wx fb)) (s1 : notStar a = true) (s2 : notStar b = true)
    (hw : swappedStores [.Tuple [.Name x px, .Name y py] kt pt] (.Tuple [a, b] k2 pt2) X.env = pure (some [x, y])) :
    PS X (.Assign [.Tuple [.Name x px, .Name y py] kt pt] (.Tuple [a, b] k2 pt2) pos) (tSt W Wx (fPar i j fa fb)) :=
  PS.imp (ps_par hc hN hi hj hij hx hy (pa_cons ha (pa_cons hb pa_nil (starEach_of s2)) (starEach_of s1)) hw (swapsSole_of rfl)) fun D σ H ⟨S, μ, env, r, hS, hE, hf, hk⟩ => by
    refine tG.lift' hS hE hf hk fun d μ1 S1 H1 l1 g1 e1 hf1 hk1 v rv => ?_
    refine tG.lift' g1 e1 hf1 hk1 fun d' μ2 S2 H2 l2 g2 e2 hf2 hk2 v' rv' => ?_
    cases hf2
    exact ⟨v, v', rfl, hk2 S2 H2 _ .refl g2 ((e2.set (sl := .v d) ⟨v, rfl, rv.later l2⟩).set (sl := .v d') ⟨v', rfl, rv'⟩)⟩
def fPar3 (i j l : Nat) (e f g : Env → EM D) : SM := liftE e fun d => liftE f fun d' => liftE g fun d'' => fun env μ => some (.nx (((env.set i (.v d)).set j (.v d')).set l (.v d'')), μ)
end
end EG
namespace EG
open PySem L2
/-! o.f = e, o a cell -/
def putD (f : Str) (d : D) : List (Str × D) → List (Str × D)
  | [] => [(f, d)]
  | (g, x) :: r => if g = f then (g, d) :: r else (g, x) :: putD f d r
section
variable {W : Wd} {S S' S1 : Ws} {H H' H1 : Hp} {σ : St} {env : Env} {μ : Mu} {Wx : WX} {α β : Type} {X : Cx} {Dn : Ends}
theorem RepFs.put {f : Str} {v : V} {d : D} (rd : RepV W S H v d) : ∀ {vs : List (Str × V)} {fs : List (Str × D)}, RepFs W S H vs fs → RepFs W S H (putF f v vs) (putD f d fs)
  | _, _, .nil => .cons rd .nil
  | _, _, .cons (f := g) r t => by
    unfold putF putD
    by_cases h : g = f
    · rw [if_pos h, if_pos h]; exact .cons rd t
    · rw [if_neg h, if_neg h]; exact .cons r (RepFs.put rd t)
theorem RepFs.len : ∀ {vs : List (Str × V)} {fs : List (Str × D)}, RepFs W S H vs fs → vs.length = fs.length
  | _, _, .nil => rfl
  | _, _, .cons _ t => by rw [List.length_cons, List.length_cons, RepFs.len t]
def cellO (x : D) (μ : Mu) : Option (Nat × Nat × List (Str × D)) := match x with
  | .cell n => match μ[n]? with
    | some (.obj c fs) => some (n, c, fs)
    | _ => none
  | _ => none
def fSetF (flds : List (Nat × Str)) (f : Str) (o e : Env → EM D) : SM := liftE e fun d => liftE o fun x => fun env μ => match cellO x μ with
  | some (n, c, fs) => if (c, f) ∈ flds ∧ fs.length < 1000 then some (.nx env, μ.set n (.obj c (putD f d fs))) else none
  | none => none
end
end EG
namespace EG
open PySem L2
section
variable {W : Wd} {S S' S1 : Ws} {H H' H1 : Hp} {σ : St} {env : Env} {μ : Mu} {Wx : WX} {X : Cx}
/-- a, b, c = [..], f, g: a's list is its own -/
def fCmb (f : Env → EM (List D)) (g h : Env → EM D) : Env → EM (List D × D × D) := fun env => bindE (f env) fun xs => bindE (g env) fun d => bindE (h env) fun e => pureE (xs, d, e)
def fPar3o (i j l : Nat) (f : Env → EM (List D)) (g h : Env → EM D) : SM := liftE (fCmb f g h) fun r env μ => some (.nx (((env.set i (.own (.lst r.1))).set j (.v r.2.1)).set l (.v r.2.2)), μ)
section
variable {i j l : Nat} {x y z : Str} {a b c : Expr} {px py pz pt pos : Pos} {kt k2 : Nat} {pt2 : Pos} {f : Env → EM (List D)} {g h : Env → EM D}
end
/-! o.append(e): o gives a cell -/
def fAppC (o e : Env → EM D) : SM := liftE o fun x env μ => match x with
  | .cell n => match μ[n]? with
    | some (.lst _) => liftE e (fun d => fun env μ' => match μ'[n]? with
      | some (.lst xs) => if xs.length < big then some (.nx env, μ'.set n (.lst (xs ++ [d]))) else none
      | _ => none) env μ
    | _ => none
  | _ => none
end
end EG
namespace EG
open PySem L2
/-! a, b = f, [..]: b's list is its own -/
section
variable {W : Wd} {S S' S1 : Ws} {H H' H1 : Hp} {σ : St} {env : Env} {μ : Mu} {Wx : WX} {X : Cx}
def fCmb2 (f : Env → EM D) (g : Env → EM (List D)) : Env → EM (D × List D) := fun env => bindE (f env) fun d => bindE (g env) fun xs => pureE (d, xs)
def fPar2o (i j : Nat) (f : Env → EM D) (g : Env → EM (List D)) : SM := liftE (fCmb2 f g) fun r env μ => some (.nx ((env.set i (.v r.1)).set j (.own (.lst r.2))), μ)
variable {i j : Nat} {x y : Str} {a b : Expr} {px py pt pos : Pos} {kt k2 : Nat} {pt2 : Pos} {f : Env → EM D} {g : Env → EM (List D)}
end
end EG
namespace EG
open PySem PySem.Spec PyProof.Rows L2
/-! a dict of one's own, its keys tuples of ints -/
def intK : Key → Bool
  | .inl _ => true
  | _ => false
def intsK (ks : List Key) : Bool := decide (2 ≤ ks.length) && ks.all intK
def tkI (d : D) : Option (List Key) := match tkD d with
  | some ks => (match intsK ks with
    | true => some ks
    | false => none)
  | none => none
def putT (kvs : List (List Key × D)) (ks : List Key) (d : D) : List (List Key × D) :=
  if hasK kvs ks = true then kvs.map (fun kv => if kv.1 = ks then (kv.1, d) else kv) else kvs ++ [(ks, d)]
section
variable {W : Wd} {S S' S1 : Ws} {H H' H1 : Hp} {σ : L2.St} {env : Env} {μ : Mu} {Wx : WX} {X : Cx}
def fNewT (i : Nat) : SM := fun env μ => some (.nx (env.set i (.own (.dT []))), μ)
def ownT (n : Nat) (k : List (List Key × D) → SM) : SM := fun env μ => match env[n]? with
  | some (.own (.dT xs)) => k xs env μ
  | _ => none
def putS (n : Nat) (kvs : List (List Key × D)) (d y : D) : SM := fun env μ => match tkI y with
  | some ks => if kvs.length < big then some (.nx (env.set n (.own (.dT (putT kvs ks d)))), μ) else none
  | none => none
def fPutT (n : Nat) (i e : Env → EM D) : SM := liftE e fun d => ownT n fun kvs => liftE i fun y => putS n kvs d y
end
end EG
namespace EG
open PySem PySem.Spec PyProof.Rows L2
/-! o.clear(): o gives a cell -/
section
variable {W : Wd} {S S' S1 : Ws} {H H' H1 : Hp} {σ : L2.St} {env : Env} {μ : Mu} {Wx : WX} {X : Cx}
def fClearC (o : Env → EM D) : SM := liftE o fun x env μ => match x with
  | .cell n => match μ[n]? with
    | some (.lst _) => some (.nx env, μ.set n (.lst []))
    | _ => none
  | _ => none
end
end EG
namespace EG
open PySem PySem.Spec PyProof.Rows L2
/-! while -/
def whileF : Nat → (Env → EM Bool) → SM → SM
  | 0, _, _ => fun _ _ => none
  | n + 1, c, body => liftE c fun b env μ => match b with
    | true => (match body env μ with
      | some (.nx env2, μ2) => whileF n c body env2 μ2
      | some (.ct env2, μ2) => whileF n c body env2 μ2
      | some (.br env2, μ2) => some (.nx env2, μ2)
      | r => r)
    | false => some (.nx env, μ)
section
variable {W : Wd} {S S' S1 : Ws} {H H' H1 : Hp} {σ : L2.St} {env : Env} {μ : Mu} {Wx : WX} {X : Cx} {Dn : Ends}
/-! d = {}, d[k] = v -/
def putK1 (kvs : List (Key × D)) (k : Key) (d : D) : List (Key × D) :=
  if (kvs.any fun kv => decide (kv.1 = k)) = true then kvs.map (fun kv => if kv.1 = k then (kv.1, d) else kv) else kvs ++ [(k, d)]
def fNewK (i : Nat) : SM := fun env μ => some (.nx (env.set i (.own (.dK []))), μ)
def ownK (n : Nat) (k : List (Key × D) → SM) : SM := fun env μ => match env[n]? with
  | some (.own (.dK xs)) => k xs env μ
  | _ => none
def putSK (n : Nat) (kvs : List (Key × D)) (d y : D) : SM := fun env μ => match keyD y with
  | some k => if kvs.length < big then some (.nx (env.set n (.own (.dK (putK1 kvs k d)))), μ) else none
  | none => none
/-- d[i] = a value that is there -/
def fPutKV (n : Nat) (i : Env → EM D) (d : D) : SM := ownK n fun kvs => liftE i fun y => putSK n kvs d y
def fPutK (n : Nat) (i e : Env → EM D) : SM := liftE e fun d => fPutKV n i d
/-! d[i], e[j], x = a, b, c -/
def fSetV (i : Nat) (d : D) : SM := fun env μ => some (.nx (env.set i (.v d)), μ)
def fPut2n (n1 n2 i : Nat) (k1 k2 : Env → EM D) (g : Env → EM (List D)) : SM := liftE g fun ds => match ds with
  | [a, b, c] => fSeq (fPutKV n1 k1 a) (fSeq (fPutKV n2 k2 b) (fSetV i c))
  | _ => fun _ _ => none
/-! {k: v for ..} -/
def compK (p : Pat) (cond : Env → EM Bool) (key elt : Env → EM D) (env : Env) : List D → List (Key × D) → EM (List (Key × D))
  | [], acc => pureE acc
  | d :: r, acc => match bindP p d env with
    | none => failE
    | some env1 => bindE (noX (cond env1)) fun b => match b with
      | true => bindE (noX (key env1)) fun y => bindE (noX (elt env1)) fun x => match keyD y with
        | some k => compK p cond key elt env r (putK1 acc k x)
        | none => failE
      | false => compK p cond key elt env r acc
def fDComp (vs : List Nat) (p : Pat) (src : Env → EM (List D)) (cond : Env → EM Bool) (key elt : Env → EM D) : Env → EM (List (Key × D)) := fun env => bindE (src env) fun ds => compK p cond key elt (wipeE env vs) ds []
/-! a, b = {..}, {} -/
def fBP {α : Type} (f : Env → EM α) : Env → EM α := fun env => bindE (f env) fun a => pureE a
def fParKK (i j : Nat) (f : Env → EM (List (Key × D))) : SM := liftE (fBP f) fun kvs env μ => some (.nx ((env.set i (.own (.dK kvs))).set j (.own (.dK []))), μ)
variable {i j : Nat} {x y : Str} {a b : Expr} {px py pt pos pd : Pos} {kt k2 : Nat} {pt2 : Pos}
/-! a, b = [..], e: a's list is its own -/
def fCmbF (g : Env → EM (List D)) (f : Env → EM D) : Env → EM (List D × D) := fun env => bindE (g env) fun xs => bindE (f env) fun d => pureE (xs, d)
def fPar2f (i j : Nat) (g : Env → EM (List D)) (f : Env → EM D) : SM := liftE (fCmbF g f) fun r env μ => some (.nx ((env.set i (.own (.lst r.1))).set j (.v r.2)), μ)
end
end EG
namespace EG
open PySem PySem.Spec PyProof.Rows L2
/-! xs.insert(i, e) on a list of one's own -/
section
variable {W : Wd} {S S' S1 : Ws} {H H' H1 : Hp} {σ : L2.St} {env : Env} {μ : Mu} {Wx : WX} {X : Cx}
def fIns (n : Nat) (fi fe : Env → EM D) : SM := ownL n fun xs => liftE fi fun di => liftE fe fun d => fun env μ => match di with
  | .int i => if xs.length < big ∧ 0 ≤ i ∧ i < 2 ^ 63 then some (.nx (env.set n (.own (.lst (xs.take i.toNat ++ d :: xs.drop i.toNat)))), μ) else none
  | _ => none
end
end EG
namespace EG
open PySem PySem.Spec PyProof.Rows L2
/-! a try whose body raises nothing -/
def fTryP (F : SM) : SM := fun env μ => match F env μ with
  | some (.exc _ _ _, _) => none
  | r => r
section
variable {W : Wd} {S : Ws} {H : Hp} {σ : L2.St} {env : Env} {μ : Mu} {Wx : WX} {X : Cx}
end
end EG
namespace EG
open PySem PySem.Spec PyProof.Rows L2
/-! try: x = .., except A: raise B(y) from None -/
def fTryR (F : SM) (k : Nat) (R : SM) : SM := fun env μ => match F env μ with
  | some (.exc c _ env', μ') => (match decide (c = k) with
    | true => R env' μ'
    | false => none)
  | r => r
section
variable {W : Wd} {S : Ws} {H : Hp} {σ : L2.St} {env : Env} {μ : Mu} {Wx : WX} {X : Cx}
end
end EG
namespace EG
open PySem L2

/-! commands -/
def okC (T : List (Nat × List Nat)) (ks : List Nat) (c : Nat) : Bool := T.any fun p => p.1 == c && p.2 == ks
mutual
inductive C where
  | pass | doc | nev | brk | cnt | retN
  | set (i : Nat) (e : E) | own (i : Nat) (e : E) | cell (i : Nat) (e : E) | asg (p : Pat) (e : E) | par (i j : Nat) (e f : E) | par3 (i j l : Nat) (e f g : E) | par3o (i j l : Nat) (e f g : E) | par2o (i j : Nat) (e f : E) | newT (i : Nat) | putT (n : Nat) (i e : E) | appC (o e : E) | clearC (o : E)
  | newK (i : Nat) | putK (n : Nat) (i e : E) | put2n (n1 : Nat) (k1 : E) (n2 : Nat) (k2 : E) (i : Nat) (as : Es) | parKK (i j : Nat) (own : List (Str × Nat)) (p : Pat) (s : Sr) (c : Oe) (k v : E) | par2f (i j : Nat) (e f : E) | whl (fuel : Nat) (c : E) (b : Cs)
  | ret (e : E) | retC (e : E) | expr (e : E)
  | iff (c : E) (a b : Cs) | forr (p : Pat) (s : Sr) (b : Cs) | forM (p : Pat) (a : E) (b : Cs)
  | setC (o i e : E) | setF (o : E) (f : Str) (e : E) | setI (n : Nat) (i e : E) | app (n : Nat) (e : E) | ins (n : Nat) (i e : E) | ext (n : Nat) (e : E)
  | tryP (b : Cs) | raise (j : Nat) (as : Es) | tryX (b : Cs) (ks : List Nat) (i i2 : Nat) (h : HE)
  | tryA (i1 : Nat) (s1 : Str) (ia : Nat) (ks : List Nat) (i i2 : Nat) (h : HE) | tryR (i : Nat) (e : E) (k : Nat) (j v : Nat)
inductive Cs where
  | nil | cons (c : C) (r : Cs) | ghost (i : Nat) (r : Cs)
end
noncomputable section
mutual
noncomputable def run (Γ : Gam) : C → SM
  | .pass => fSkip
  | .doc => fSkip
  | .nev => fNever
  | .brk => fBreak
  | .cnt => fCont
  | .retN => fRetN
  | .set i e => fSet i (ev Γ e).e
  | .own i e => fSetOwn i (ev Γ e).l
  | .cell i e => fSet i (fNewc (ev Γ e).l)
  | .asg p e => fAsg p (ev Γ e).e
  | .par i j e f => fPar i j (ev Γ e).e (ev Γ f).e
  | .par3 i j l e f g => fPar3 i j l (ev Γ e).e (ev Γ f).e (ev Γ g).e
  | .par3o i j l e f g => fPar3o i j l (ev Γ e).l (ev Γ f).e (ev Γ g).e
  | .par2o i j e f => fPar2o i j (ev Γ e).e (ev Γ f).l
  | .newT i => fNewT i
  | .putT n i e => fPutT n (ev Γ i).e (ev Γ e).e
  | .appC o e => fAppC (ev Γ o).b (ev Γ e).e
  | .clearC o => fClearC (ev Γ o).b
  | .newK i => fNewK i
  | .putK n i e => fPutK n (ev Γ i).e (ev Γ e).e
  | .put2n n1 k1 n2 k2 i as => fPut2n n1 n2 i (ev Γ k1).e (ev Γ k2).e (evs Γ as).s
  | .parKK i j own p s c k v => fParKK i j (fDComp (own.map (·.2)) p (evr Γ s) (evo Γ c).2 (ev Γ k).e (ev Γ v).e)
  | .par2f i j e f => fPar2f i j (ev Γ e).l (ev Γ f).e
  | .whl fuel c b => whileF fuel (ev Γ c).t (runs Γ b)
  | .ret e => fRet (ev Γ e).e
  | .retC e => fRet (fNewc (ev Γ e).l)
  | .expr e => fDrop (ev Γ e).e
  | .iff c a b => fIfS (ev Γ c).t (runs Γ a) (runs Γ b)
  | .forr p s b => fFor p (evr Γ s) (runs Γ b)
  | .forM p a b => fForM p (fCons (ev Γ a).e fNil) (runs Γ b)
  | .setC o i e => fSetC (ev Γ o).b (ev Γ i).b (ev Γ e).e
  | .setF o f e => fSetF Γ.flds f (ev Γ o).b (ev Γ e).e
  | .setI n i e => fSetI n (ev Γ i).b (ev Γ e).e
  | .app n e => fApp n (ev Γ e).e
  | .ins n i e => fIns n (ev Γ i).e (ev Γ e).e
  | .ext n e => fExt n (ev Γ e).e
  | .tryP b => fTryP (runs Γ b)
  | .raise j as => match Γ.exs[j]? with
    | some g => fRaise g (evs Γ as).s
    | none => fNever
  | .tryX b ks i i2 h => fTry (runs Γ b) i (okC Γ.ctch ks) (fSeq (fSet i2 (hev Γ.xt Γ.hfs h)) fSkip)
  | .tryA i1 s1 ia ks i i2 h => fTry (fSeq (fSet i1 (fTup (fCons (fC (.str s1)) (fCons (fAct Γ.LF ia) fNil)))) fSkip) i (okC Γ.ctch ks) (fSeq (fSet i2 (hev Γ.xt Γ.hfs h)) fSkip)
  | .tryR i e k j v => match Γ.exs[j]? with
    | some g => fTryR (fSeq (fSet i (ev Γ.cold e).e) fSkip) k (fSeq (fRaise g (fCons (fV v) fNil)) fSkip)
    | none => fNever
noncomputable def runs (Γ : Gam) : Cs → SM
  | .nil => fSkip
  | .cons c r => fSeq (run Γ c) (runs Γ r)
  | .ghost i r => fSeq (fFreeze i) (runs Γ r)
end
end
/-- what swapsWith says of a name and a value, in a def -/
def swB (sc : Scope) (t : Str) (tl : Nat) (v : Expr) : Bool := match v with
  | .ListComp _ _ s p => decide (sc.names.lookup t = some .local) && tl == p.line && !(s.names.any fun (n, k) => n == t && (k == .local || k == .cell))
  | _ => false
def okStore (N : List Str) (sc : Scope) (i : Nat) (x : Str) : Bool := decide (N[i]? = some x) && isLoc sc x
def swPar (x y : Str) (px py : Pos) (a b : Expr) : Bool := px.line == py.line && decide (x ≠ y) && !([a, b].all (foldedForSure 8)) && !([a, b].all (constantsAlone 8))
def isListComp : Expr → Bool
  | .ListComp .. => true
  | _ => false
mutual
def chkC (Γ : Gam) (N : List Str) (sc : Scope) : C → Stmt → Bool
  | .pass, s => match s with
    | .Pass _ => true
    | _ => false
  | .doc, s => match s with
    | .Expr (.Constant (.str _) _ _) _ => true
    | _ => false
  | .nev, _ => true
  | .brk, s => match s with
    | .Break _ => true
    | _ => false
  | .cnt, s => match s with
    | .Continue _ => true
    | _ => false
  | .retN, s => match s with
    | .Return none _ => true
    | _ => false
  | .set i e, s => match s with
    | .Assign [.Name x p] v _ => okStore N sc i x && chk Γ N sc e v && (notComp v || isListComp v && (!(swB sc x p.line v) || decide (sc.names.lookup x = some .local)))
    | _ => false
  | .own i e, s => false
  | .cell i e, s => false
  | .asg p e, s => false
  | .par i j e f, s => match s with
    | .Assign [.Tuple [.Name x px, .Name y py] _ _] (.Tuple [a, b] _ _) _ => decide (N[i]? = some x) && decide (N[j]? = some y) && decide (i ≠ j) && decide (sc.names.lookup x = some .local) && decide (sc.names.lookup y = some .local) && chk Γ N sc e a && chk Γ N sc f b && notStar a && notStar b && swPar x y px py a b
    | _ => false
  | .par3 i j l e f g, s => false
  | .par3o i j l e f g, s => false
  | .par2o i j e f, s => false
  | .newT i, s => false
  | .putT n i e, s => false
  | .newK i, s => false
  | .putK n i e, s => false
  | .put2n n1 k1 n2 k2 i as, s => false
  | .parKK i j own p s c k v, st => false
  | .par2f i j e f, s => false
  | .whl _ c b, s => false
  | .clearC o, s => false
  | .appC o e, s => false
  | .ret e, s => match s with
    | .Return (some v) _ => chk Γ N sc e v
    | _ => false
  | .retC e, s => match s with
    | .Return (some v) _ => chk Γ N sc e v
    | _ => false
  | .expr e, s => false
  | .iff c a b, s => match s with
    | .If x y z _ => chk Γ N sc c x && chkCs Γ N sc a y && chkCs Γ N sc b z
    | _ => false
  | .forr p r b, s => match s with
    | .For tg it body [] _ => chkP N sc p tg && chkr Γ N sc r tg it && chkCs Γ N sc b body && notSet it && notOwn r
    | _ => false
  | .forM p a b, s => false
  | .setC o i e, s => match s with
    | .Assign [.Subscript x y _] v _ => chk Γ N sc o x && chk Γ N sc i y && chk Γ N sc e v && notSlice y && notComp v
    | _ => false
  | .setF o f e, s => false
  | .setI n i e, s => false
  | .app n e, s => false
  | .ins n i e, s => false
  | .ext n e, s => false
  | .raise j as, s => false
  | .tryP b, s => false
  | .tryA i1 s1 ia ks i i2 h, s => false
  | .tryR i e k j v, s => false
  | .tryX b ks i i2 h, s => false
def chkCs (Γ : Gam) (N : List Str) (sc : Scope) : Cs → List Stmt → Bool
  | .nil, ss => ss.isEmpty
  | .cons c r, ss => match ss with
    | [] => false
    | s :: ss => chkC Γ N sc c s && chkCs Γ N sc r ss
  | .ghost _ r, ss => chkCs Γ N sc r ss
end
structure XSt (Γ : Gam) (N : List Str) (sc : Scope) (W : Wd) (Wx : WX) (k : Nat) (X : Cx) : Prop extends XOk Γ N sc W Wx k X where
  hsc : X.env.scope = sc
  hkind : sc.kind = .function
  po : PassesOwn (model X.prog X.w) X.A X.env X.xe
  hex : X.ex = []
  hstk : X.stack = X.env :: X.outer
  hfrm : X.env.frame = some X.env.locals
  pa : Γ.hot = true → ∀ hd : Option Value, PassesOwnAt (model X.prog X.w) (X.A.mark hd) X.A X.env X.xe
section
variable {Γ : Gam} {N : List Str} {W : Wd} {k : Nat} {X : Cx} {sc : Scope} {Wx : WX}
theorem PS.asgImp {st : Stmt} {te te' : TE} {g : TG} (h : PS X st (tAsg te g)) (hi : ∀ σ H Q, te' σ H Q → te σ H Q) : PS X st (tAsg te' g) := PS.imp h fun D σ H q => hi _ _ _ q
theorem swB_of (hX : XSt Γ N sc W Wx k X) {x : Str} {p pos : Pos} {v : Expr} {b : Bool} (hl : isListComp v = true) (h : swB sc x p.line v = b) : swapsWith v (some (.Name x p)) pos.line X.env = pure b := by
  cases v <;> first
    | (cases hl; done)
    | skip
  subst h
  rename_i el gs s pp
  have hk : X.env.blockKind = .function := by
    show (if X.env.scope.kind.isAnnotationScope then ScopeKind.function else X.env.scope.kind) = _
    rw [hX.hsc, hX.hkind]; rfl
  have hn : X.env.kindOf x = sc.names.lookup x := by
    show X.env.scope.names.lookup x = _
    rw [hX.hsc]
  show (pure (X.env.blockKind == .function && X.env.kindOf x == some .local && p.line == pp.line && !(s.names.any fun (n, k) => n == x && (k == .local || k == .cell))) : Sem Bool) = _
  rw [hk, hn]
  unfold swB
  congr 1
  have : (some NameKind.local == sc.names.lookup x) = decide (sc.names.lookup x = some .local) := by
    by_cases q : sc.names.lookup x = some .local
    · rw [q]; rfl
    · rw [decide_eq_false q]
      exact beq_eq_false_iff_ne.mpr fun z => q z.symm
  have this2 : (sc.names.lookup x == some NameKind.local) = decide (sc.names.lookup x = some .local) := by
    by_cases q : sc.names.lookup x = some .local
    · rw [q]; rfl
    · rw [decide_eq_false q]
      exact beq_eq_false_iff_ne.mpr q
  rw [this2]
  rfl
theorem anyStar {a b : Expr} (h1 : notStar a = true) (h2 : notStar b = true) : ([a, b].any fun | .Starred .. => true | _ => false) = false := by
  cases a <;> first
    | (cases h1; done)
    | (cases b <;> first
        | (cases h2; done)
        | rfl)
theorem swapped_par (hX : XSt Γ N sc W Wx k X) {x y : Str} {a b : Expr} {px py pt pt2 : Pos} {kt k2 : Nat} (h : swPar x y px py a b = true) (hx : sc.names.lookup x = some .local) (hy : sc.names.lookup y = some .local) (s1 : notStar a = true) (s2 : notStar b = true) :
    swappedStores [.Tuple [.Name x px, .Name y py] kt pt] (.Tuple [a, b] k2 pt2) X.env = pure (some [x, y]) := by
  have hk : X.env.blockKind = .function := by
    show (if X.env.scope.kind.isAnnotationScope then ScopeKind.function else X.env.scope.kind) = _
    rw [hX.hsc, hX.hkind]; rfl
  have nx : X.env.kindOf x = some .local := by
    show X.env.scope.names.lookup x = _
    rw [hX.hsc]; exact hx
  have ny : X.env.kindOf y = some .local := by
    show X.env.scope.names.lookup y = _
    rw [hX.hsc]; exact hy
  unfold swPar at h
  simp only [Bool.and_eq_true, Bool.not_eq_true', decide_eq_true_eq, beq_iff_eq] at h
  obtain ⟨⟨⟨h1, h2⟩, h3⟩, h4⟩ := h
  have hn : ([Expr.Name x px, Expr.Name y py].filterMap fun
    | .Name id pos => if X.env.kindOf id == some .local && pos.line == px.line then some id else none
    | _ => none) = [x, y] := by
    simp [List.filterMap_cons, nx, ny, h1]
  have he : ([x, y] : List Str).eraseDups.length = 2 := by
    have : (y == x) = false := beq_eq_false_iff_ne.mpr fun z => h2 z.symm
    simp [List.eraseDups_cons, this]
  show (do
    if !(2 == 2 || 2 == 3) || 2 != 2 || X.env.blockKind != .function then return none
    if [a, b].any fun | .Starred .. => true | _ => false then return none
    let names := [Expr.Name x px, Expr.Name y py].filterMap fun
      | .Name id pos => if X.env.kindOf id == some .local && pos.line == px.line then some id else none
      | _ => none
    if names.length != 2 || names.eraseDups.length != names.length then return none
    if [a, b].all (foldedForSure 8) then return none
    if [a, b].all (constantsAlone 8) then unsupported "assign.tuple-of-constant-expressions:order-of-the-stores"
    return some names : Sem (Option (List Str))) = _
  rw [hn]
  simp only [hk, anyStar s1 s2, he, h3, h4]
  rfl
/-! comprehensions given to a name on one line -/
theorem newc_of {g : Env → EM (List D)} {σ : L2.St} {H : Hp} {Q : VK} (h : tEv W Wx (fNewc g) σ H Q) : tEvL W Wx g σ H Q := by
  obtain ⟨S, μ, env, res, hS, hE, hf, hk⟩ := h
  unfold fNewc bindE at hf
  cases e : g env μ with
  | none => rw [e] at hf; cases hf
  | some q =>
    obtain ⟨o, μ1⟩ := q
    rw [e] at hf
    cases o with
    | exc c fs => cases hf; exact ⟨S, μ, env, _, hS, hE, e, hk⟩
    | ok ds =>
      cases hf
      refine ⟨S, μ, env, _, hS, hE, e, fun S' H' l g' p vs hp ho hh hl r => ?_⟩
      obtain ⟨S2, l2, g2, r2⟩ := cell_new' (c := .lst ds) hS hp l g' ho ⟨vs, hh, hl, r⟩
      exact hk S2 H' l2 g2 _ r2
theorem failL_no {σ : L2.St} {H : Hp} {Q : VK} (h : tEvL W Wx failL σ H Q) : False := by
  obtain ⟨S, μ, env, res, hS, hE, hf, hk⟩ := h
  cases hf
theorem lc_shape {v : Expr} (h : isListComp v = true) : ∃ a b c d, v = .ListComp a b c d := by
  cases v <;> first
    | exact ⟨_, _, _, _, rfl⟩
    | cases h
theorem comp_lc0 (hX : XSt Γ N sc W Wx k X) {i : Nat} {x : Str} {p pos : Pos} {v : Expr} {e : E} (hn : notNc e = true) (hl : isListComp v = true) (hc : chk Γ N sc e v = true) (h1 : N[i]? = some x) (h2 : sc.names.lookup x = some .local) (hs : swB sc x p.line v = true) :
    PS X (.Assign [.Name x p] v pos) (tAsg (tEvL W Wx (ev Γ e).l) (gName i)) := by
  have hs' := swB_of hX (pos := pos) hl hs
  cases e with
  | comp own q s c el =>
    unfold chk at hc
    split at hc
    · rename_i el' tg iter ifs scope pp
      simp only [Bool.and_eq_true] at hc
      obtain ⟨⟨⟨⟨⟨⟨k1, k2⟩, k3⟩, k4⟩, k5⟩, k6⟩, k7⟩ := hc
      obtain ⟨k2, hnm⟩ := k2
      have bk : BlkOk X.N X.env.scope scope own := by rw [hX.hN]; exact blkOk_scopes (blkOk_by k2) hX.hlk
      refine PS.asgImp (ps_setLc (own := own) hX.calm (by rw [hX.hN]; exact hX.nd) (by rw [hX.hN]; exact h1) (by rw [hX.hsc]; exact h2) hs' (sndr s _ _ sc Wx X k1 hX.toXOk).1 bk (fun s H C cl fp => pat_of (hX.toXOk.blk s H _ C cl fp hnm) q _ k4) (fun s H C cl fp => sndc c _ _ Wx0 _ k5 (hX.toXOk.blk s H _ C cl fp hnm)) (fun s H C cl fp => (snd el _ _ Wx0 _ k6 (hX.toXOk.blk s H _ C cl fp hnm)).pe) (folded_of k7)) fun σ H Q h => lc_of (fun i hi => ?_) h
      have := List.all_eq_true.mp k3 i hi
      simpa using this
    · cases hc
  | compz own q a b c el =>
    unfold chk at hc
    cases hc
  | compm own q a c el =>
    unfold chk at hc
    cases hc
  | comp2 own q s c q1 s1 c1 el =>
    unfold chk at hc
    cases hc
  | _ =>
    obtain ⟨_, _, _, _, rfl⟩ := lc_shape hl
    unfold chk at hc
    first
      | (cases hc; done)
      | (cases hn; done)
theorem comp_lc (hX : XSt Γ N sc W Wx k X) {i : Nat} {x : Str} {p pos : Pos} {v : Expr} {e : E} (hl : isListComp v = true) (hc : chk Γ N sc e v = true) (h1 : N[i]? = some x) (h2 : sc.names.lookup x = some .local) (hs : swB sc x p.line v = true) :
    PS X (.Assign [.Name x p] v pos) (tAsg (tEvL W Wx (ev Γ e).l) (gName i)) := by
  cases hn : notNc e with
  | true => exact comp_lc0 hX hn hl hc h1 h2 hs
  | false =>
    cases e with
    | nc a =>
      unfold chk at hc
      cases v <;> first | (cases hl; done) | skip
      rw [Bool.and_eq_true] at hc
      exact PS.asgImp (comp_lc0 hX hc.1 hl hc.2 h1 h2 hs) fun σ H Q h => (failL_no h).elim
    | _ => cases hn
theorem storeN (hX : XSt Γ N sc W Wx k X) {i : Nat} {x : Str} {p pos : Pos} {v : Expr} {te : TE} (h : okStore N sc i x = true) (he : PE X v te) (hs : swapsWith v (some (.Name x p)) pos.line X.env = pure false) : PS X (.Assign [.Name x p] v pos) (tAsg te (gName i)) := by
  unfold okStore at h
  rw [Bool.and_eq_true] at h
  have l := isLoc_loc h.2
  refine ps_set (by rw [hX.hN]; exact hX.nd) (by rw [hX.hN]; exact of_decide_eq_true h.1) (by rw [hX.hsc]; exact l) he hs ?_
  rcases l with l | l
  · exact .inr (by rw [hX.hsc]; exact l)
  · exact .inl (hX.fn x l)
/-- x = a new list, whichever way the comprehension is stored -/
theorem asgL (hX : XSt Γ N sc W Wx k X) {i : Nat} {x : Str} {p pos : Pos} {v : Expr} {e : E} (h : okStore N sc i x = true) (hc : chk Γ N sc e v = true) (hv : (notComp v || isListComp v && (!(swB sc x p.line v) || decide (sc.names.lookup x = some .local))) = true) :
    PS X (.Assign [.Name x p] v pos) (tAsg (tEvL W Wx (ev Γ e).l) (gName i)) := by
  rcases (Bool.or_eq_true _ _).mp hv with q | q
  · exact storeN hX h (snd e v sc Wx X hc hX.toXOk).pl (swaps_of q)
  · rw [Bool.and_eq_true] at q
    cases z : swB sc x p.line v with
    | false => exact storeN hX h (snd e v sc Wx X hc hX.toXOk).pl (swB_of hX q.1 z)
    | true =>
      rw [z] at q
      have h' := h
      unfold okStore at h'
      rw [Bool.and_eq_true] at h'
      exact comp_lc hX q.1 hc (of_decide_eq_true h'.1) (by simpa using q.2) z
theorem asgE (hX : XSt Γ N sc W Wx k X) {i : Nat} {x : Str} {p pos : Pos} {v : Expr} {e : E} (h : okStore N sc i x = true) (hc : chk Γ N sc e v = true) (hv : (notComp v || isListComp v && (!(swB sc x p.line v) || decide (sc.names.lookup x = some .local))) = true) :
    PS X (.Assign [.Name x p] v pos) (tAsg (tEv W Wx (ev Γ e).e) (gName i)) := by
  rcases (Bool.or_eq_true _ _).mp hv with q | q
  · exact storeN hX h (snd e v sc Wx X hc hX.toXOk).pe (swaps_of q)
  · have hL := asgL hX (pos := pos) h hc hv
    rw [Bool.and_eq_true] at q
    cases hn : notNc e with
    | false =>
      cases e with
      | nc a =>
        have hc2 : chk Γ N sc a v = true := by
          unfold chk at hc
          cases v <;> first | (cases q.1; done) | (have := q.1; cases this; done) | exact ((Bool.and_eq_true _ _).mp hc).2
        exact PS.asgImp (asgL hX (pos := pos) h hc2 hv) fun σ H Q h => newc_of h
      | _ => cases hn
    | true =>
    obtain ⟨_, _, _, _, rfl⟩ := lc_shape q.1
    cases e <;> first
      | (cases hn; done)
      | (unfold chk at hc; cases hc; done)
      | skip
    all_goals exact PS.asgImp hL fun σ H Q h => new_of h
/-! raise, try -/
mutual
theorem sndC : ∀ (c : C) (s : Stmt) {Wx : WX} {X : Cx}, chkC Γ N sc c s = true → XSt Γ N sc W Wx k X → PS X s (tSt W Wx (run Γ c))
  | .pass, s, Wx, X, h, hX => by
    unfold chkC at h
    split at h
    · exact es_pass
    · cases h
  | .doc, s, Wx, X, h, hX => by
    unfold chkC at h
    split at h
    · exact es_doc
    · cases h
  | .nev, s, Wx, X, h, hX => es_never
  | .brk, s, Wx, X, h, hX => by
    unfold chkC at h
    split at h
    · exact es_break
    · cases h
  | .cnt, s, Wx, X, h, hX => by
    unfold chkC at h
    split at h
    · exact es_cont
    · cases h
  | .retN, s, Wx, X, h, hX => by
    unfold chkC at h
    split at h
    · exact es_retN
    · cases h
  | .set i e, s, Wx, X, h, hX => by
    unfold chkC at h
    split at h
    · simp only [Bool.and_eq_true] at h
      exact es_set (asgE hX h.1.1 h.1.2 h.2)
    · cases h
  | .own i e, s, Wx, X, h, hX => by
    unfold chkC at h
    cases h
  | .cell i e, s, Wx, X, h, hX => by
    unfold chkC at h
    cases h
  | .asg p e, s, Wx, X, h, hX => by
    unfold chkC at h
    cases h
  | .par i j e f, s, Wx, X, h, hX => by
    unfold chkC at h
    split at h
    · simp only [Bool.and_eq_true, decide_eq_true_eq] at h
      obtain ⟨⟨⟨⟨⟨⟨⟨⟨⟨h1, h2⟩, h3⟩, h4⟩, h5⟩, h6⟩, h7⟩, h8⟩, h9⟩, h10⟩ := h
      exact es_par hX.calm (by rw [hX.hN]; exact hX.nd) (by rw [hX.hN]; exact h1) (by rw [hX.hN]; exact h2) h3 (by rw [hX.hsc]; exact h4) (by rw [hX.hsc]; exact h5) (snd e _ sc Wx X h6 hX.toXOk).pe (snd f _ sc Wx X h7 hX.toXOk).pe h8 h9 (swapped_par hX h10 h4 h5 h8 h9)
    · cases h
  | .par3 i j l e f g, s, Wx, X, h, hX => by
    unfold chkC at h
    cases h
  | .par3o i j l e f g, s, Wx, X, h, hX => by
    unfold chkC at h
    cases h
  | .par2o i j e f, s, Wx, X, h, hX => by
    unfold chkC at h
    cases h
  | .newT i, s, Wx, X, h, hX => by
    unfold chkC at h
    cases h
  | .putT n i e, s, Wx, X, h, hX => by
    unfold chkC at h
    cases h
  | .newK i, s, Wx, X, h, hX => by
    unfold chkC at h
    cases h
  | .putK n i e, s, Wx, X, h, hX => by
    unfold chkC at h
    cases h
  | .put2n n1 k1 n2 k2 i as, s, Wx, X, h, hX => by
    unfold chkC at h
    cases h
  | .parKK i j own p s c k v, st, Wx, X, h, hX => by
    unfold chkC at h
    cases h
  | .par2f i j e f, s, Wx, X, h, hX => by
    unfold chkC at h
    cases h
  | .whl fuel c b, s, Wx, X, h, hX => by
    unfold chkC at h
    cases h
  | .clearC o, s, Wx, X, h, hX => by
    unfold chkC at h
    cases h
  | .appC o e, s, Wx, X, h, hX => by
    unfold chkC at h
    cases h
  | .ret e, s, Wx, X, h, hX => by
    unfold chkC at h
    split at h
    · exact es_ret (snd e _ sc Wx X h hX.toXOk).pe
    · cases h
  | .retC e, s, Wx, X, h, hX => by
    unfold chkC at h
    split at h
    · exact es_ret (ev_newc (snd e _ sc Wx X h hX.toXOk).pl)
    · cases h
  | .expr e, s, Wx, X, h, hX => by
    unfold chkC at h
    cases h
  | .iff c a b, s, Wx, X, h, hX => by
    unfold chkC at h
    split at h
    · simp only [Bool.and_eq_true] at h
      exact es_if (snd c _ sc Wx X h.1.1 hX.toXOk).pt (sndCs a _ h.1.2 hX) (sndCs b _ h.2 hX)
    · cases h
  | .forr p r b, s, Wx, X, h, hX => by
    unfold chkC at h
    split at h
    · simp only [Bool.and_eq_true] at h
      obtain ⟨⟨⟨⟨h1, h2⟩, h3⟩, h4⟩, h5⟩ := h
      exact es_for hX.po hX.calm (sndrS r _ _ sc Wx X h2 h5 hX.toXOk) (pat_of hX.toXOk p _ h1) (sndCs b _ h3 hX) (folded_of h4)
    · cases h
  | .forM p a b, s, Wx, X, h, hX => by
    unfold chkC at h
    cases h
  | .setC o i e, s, Wx, X, h, hX => by
    unfold chkC at h
    split at h
    · simp only [Bool.and_eq_true] at h
      obtain ⟨⟨⟨⟨h1, h2⟩, h3⟩, h4⟩, h5⟩ := h
      exact es_setC (snd e _ sc Wx X h3 hX.toXOk).pe (snd o _ sc Wx X h1 hX.toXOk).pb (snd i _ sc Wx X h2 hX.toXOk).pb h4 h5
    · cases h
  | .setF o f e, s, Wx, X, h, hX => by
    unfold chkC at h
    cases h
  | .setI n i e, s, Wx, X, h, hX => by
    unfold chkC at h
    cases h
  | .app n e, s, Wx, X, h, hX => by
    unfold chkC at h
    cases h
  | .ins n i e, s, Wx, X, h, hX => by
    unfold chkC at h
    cases h
  | .ext n e, s, Wx, X, h, hX => by
    unfold chkC at h
    cases h
  | .raise j as, s, Wx, X, h, hX => by
    unfold chkC at h
    cases h
  | .tryP b, s, Wx, X, h, hX => by
    unfold chkC at h
    cases h
  | .tryX b ks i i2 hh, s, Wx, X, h, hX => by
    unfold chkC at h
    cases h
  | .tryA i1 s1 ia ks i i2 hh, s, Wx, X, h, hX => by
    unfold chkC at h
    cases h
  | .tryR i e k' j v, s, Wx, X, h, hX => by
    unfold chkC at h
    cases h
theorem sndCs : ∀ (c : Cs) (s : List Stmt) {Wx : WX} {X : Cx}, chkCs Γ N sc c s = true → XSt Γ N sc W Wx k X → PSs X s (tSt W Wx (runs Γ c))
  | .nil, s, Wx, X, h, hX => by
    unfold chkCs at h
    cases s with
    | nil => exact es_nil
    | cons a r => cases h
  | .cons c r, s, Wx, X, h, hX => by
    unfold chkCs at h
    cases s with
    | nil => cases h
    | cons a t =>
      simp only [Bool.and_eq_true] at h
      exact es_cons (sndC c a h.1 hX) (sndCs r t h.2 hX)
  | .ghost i r, s, Wx, X, h, hX => by
    unfold chkCs at h
    exact es_freeze (sndCs r s h hX)
end
end
end EG
namespace EG
open PySem L2

/-! defs -/
def env0 (n : Nat) (ds : List D) : Env := ds.map Slot.v ++ List.replicate (n - ds.length) Slot.no
def endF : Option (SO × Mu) → Option (Out D × Mu)
  | some (.nx _, μ) => some (.ok .non, μ)
  | some (.rt d, μ) => some (.ok d, μ)
  | some (.exc c fs _, μ) => some (.exc c fs, μ)
  | _ => none
def runF (n : Nat) (F : SM) : Fn := fun ds μ => endF (F (env0 n ds) μ)
/-- what the module holds of a text's names -/
structure MOk (Γ : Gam) (W : Wd) (P : Program) (w : World) (mg : Str → Option Value) (base : Heap) (k : Nat) : Prop where
  fns : ∀ (i : Nat) g, Γ.fns[i]? = some g → (∃ f fd ps dvs dus, FnOk P w W.K mg base (L2N.CX P w) g.lvl f fd ps (spF W g.n g.F) ∧ mg g.name = some (.ref f) ∧ PySem.W.keepIn W.K (.ref f) = true ∧ Binds W.K fd ps dus ∧ Vals dvs dus ∧ ∀ S H, RepVs W S H dvs g.dds) ∧ g.lvl ≤ k
  fnsH : ∀ (i : Nat) g, Γ.fnsH[i]? = some g → (∃ f fd ps dvs dus, FnOk P w W.K mg base (L2.CX P w) g.lvl f fd ps (spF W g.n g.F) ∧ mg g.name = some (.ref f) ∧ PySem.W.keepIn W.K (.ref f) = true ∧ Binds W.K fd ps dus ∧ Vals dvs dus ∧ ∀ S H, RepVs W S H dvs g.dds) ∧ g.lvl ≤ k
  consts : ∀ (i : Nat) c, Γ.consts[i]? = some c → ∃ v u, mg c.name = some u ∧ RelV v u ∧ ∀ S H, RepV W S H v c.d
  clss : ∀ x c, (x, c) ∈ Γ.clss → mg x = some (.ref (W.ca c))
  frees : ∀ x, x ∈ Γ.frees → mg x = none
  isi : IsiOk W Γ.isi
  flds : FldOk W Γ.flds
  meths : ∀ (i : Nat) g, Γ.meths[i]? = some g → (∃ f fd ps dvs dus, FnOk P w W.K mg base (L2N.CX P w) g.lvl f fd ps (spF W g.n g.F) ∧ Cls W.K (W.ca g.cls) ∧ Meth W.K (W.ca g.cls) g.name f ∧ Binds W.K fd ps dus ∧ Vals dvs dus ∧ ∀ S H, RepVs W S H dvs g.dds) ∧ g.lvl ≤ k
  props : ∀ (i : Nat) g, Γ.props[i]? = some g → (∃ pp f fd ps dvs dus, FnOk P w W.K mg base (L2N.CX P w) g.lvl f fd ps (spF W g.n g.F) ∧ Cls W.K (W.ca g.cls) ∧ PropOf W.K (W.ca g.cls) g.name pp f ∧ Binds W.K fd ps dus ∧ Vals dvs dus ∧ ∀ S H, RepVs W S H dvs g.dds) ∧ g.lvl + 1 ≤ k
  makes : ∀ (i : Nat) g, Γ.makes[i]? = some g → (∃ f fd ps gB gV, FnOk P w W.K mg base (L2N.CX P w) g.lvl f fd ps (spF W g.n g.F) ∧ Mk W.K (W.ca g.cls) f ∧ mg g.name = some (.ref (W.ca g.cls)) ∧ KBn W.K fd ps (g.np + 1) g.ks gB gV ∧ ArrOk W gV g.arr) ∧ g.lvl + 1 ≤ k
  eqs : ∀ (i : Nat) g, Γ.eqs[i]? = some g → (∃ f fd ps, FnOk P w W.K mg base (L2N.CX P w) g.lvl f fd ps (spF W 2 g.F) ∧ ClsOk W g.cls ∧ PySem.W.findIn W.K (.ref (W.ca g.cls)) "__eq__" = some (some (.ref f)) ∧ PySem.W.isFn W.K (.ref f) = true ∧ Binds W.K fd ps [] ∧ NeFacts W.K (W.ca g.cls) f) ∧ g.lvl + 1 ≤ k
  kcs : ∀ (i : Nat) g, Γ.kcs[i]? = some g → (∃ f fd ps gB gV, FnOk P w W.K mg base (L2N.CX P w) g.lvl f fd ps (spF W g.n g.F) ∧ mg g.name = some (.ref f) ∧ PySem.W.keepIn W.K (.ref f) = true ∧ KBn W.K fd ps g.np g.ks gB gV ∧ ArrOk W gV g.arr) ∧ g.lvl ≤ k
  kms : ∀ (i : Nat) g, Γ.kms[i]? = some g → (∃ f fd ps gB gV, FnOk P w W.K mg base (L2N.CX P w) g.lvl f fd ps (spF W g.n g.F) ∧ Cls W.K (W.ca g.cls) ∧ Meth W.K (W.ca g.cls) g.name f ∧ KBn W.K fd ps (1 + g.np) g.ks gB gV ∧ ArrOk W gV g.arr) ∧ g.lvl ≤ k
  kss : ∀ (i : Nat) g, Γ.kss[i]? = some g → (∃ mc pp f fd ps gB gV, FnOk P w W.K mg base (L2N.CX P w) g.lvl f fd ps (spF W g.n g.F) ∧ mg g.cname = some (.ref (W.ca g.cls)) ∧ SMet W.K (W.ca g.cls) mc g.name pp f ∧ KBn W.K fd ps g.np g.ks gB gV ∧ ArrOk W gV g.arr) ∧ g.lvl ≤ k
  o1s : ∀ (i : Nat) g, Γ.o1s[i]? = some g → (∃ f fd ps, FnOk P w W.K mg base (L2N.CX P w) g.lvl f fd ps (spF W 1 g.F) ∧ PySem.W.findIn W.K (.ref (W.ca g.cls)) g.k.dunder = some (some (.ref f)) ∧ PySem.W.isFn W.K (.ref f) = true ∧ Binds W.K fd ps []) ∧ g.lvl + 1 ≤ k
  us : ∀ (i : Nat) g, Γ.us[i]? = some g → GUOk W P w mg base g ∧ g.lvl + 1 ≤ k
  b2s : ∀ (i : Nat) g, Γ.b2s[i]? = some g → GBOk W P w mg base g ∧ g.lvl + 1 ≤ k
  cvs : ∀ (i : Nat) g, Γ.cvs[i]? = some g → GCvOk W mg g
  wds : ∀ (i : Nat) g, Γ.wds[i]? = some g → GWdOk W w mg g
  exs : ∀ (i : Nat) g, Γ.exs[i]? = some g → GXOk W P mg g ∧ 1 ≤ k
  xt : XtOk W Γ.xt
  hfs : ∀ (i : Nat) g, Γ.hfs[i]? = some g → GHOk W P w mg base g ∧ g.lvl ≤ k
  ctch : ∀ c hs, (c, hs) ∈ Γ.ctch → PySem.W.exmAny W.K (.ref (W.ca c)) (hs.map fun h => .ref (W.ca h)) = some true
  lam : LamOk W P w mg base k Γ.LF
  lamB : ∀ n b p e z, Γ.lamB n b p e z = true → W.lamB n b p e z = true
  noT : Γ.noT = true → noTup W.K = true
section
variable {Γ : Gam} {W : Wd} {P : Program} {w : World} {mg : Str → Option Value} {base : Heap} {k : Nat}
theorem envOk_start {S : Ws} {H : Hp} {N : List Str} {vs : List V} {ds : List D} (r : RepVs W S H vs ds) : EnvOk W S H (L2.start N vs) (env0 N.length ds) where
  len := by
    unfold env0 L2.start
    simp only [List.length_append, List.length_map, List.length_replicate, r.length]
  at_ := fun i sl e => by
    unfold env0 at e
    unfold L2.start
    by_cases hi : i < ds.length
    · rw [List.getElem?_append_left (by simpa using hi), List.getElem?_map] at e
      cases z : ds[i]? with
      | none => rw [z] at e; cases e
      | some d =>
        rw [z] at e
        cases e
        obtain ⟨v, e1, e2⟩ := r.get z
        rw [List.getElem?_append_left (by rw [List.length_map, r.length]; exact hi), List.getElem?_map, e1]
        exact ⟨v, rfl, e2⟩
    · rw [List.getElem?_append_right (by simpa using Nat.le_of_not_lt hi), List.getElem?_replicate] at e
      split at e
      · cases e; trivial
      · cases e
/-- a def's body runs as its check says, out of data for its parameters -/
theorem bodyG {CX : CXT} {qual : Str} {body : List Stmt} {scope : Scope} {f : Addr} {N ps : List Str} {cs : Cs} (Sc : FnScope N ps scope) (hM : MOk Γ W P w mg base k) (hc : chkCs Γ N scope cs body = true) (cdv : Value) (A : Around) (outer : List PySem.Env) (s : Shared) (H : Hp) (vs : List V) (Q : VK) (E : XK) (tk : L2N.Takes (cxOf CX P w W.K mg base N qual scope f cdv A outer s H E) fun c d _ H' => E c d H') (tk2 : Γ.hot = true → L2.Takes (cxOf CX P w W.K mg base N qual scope f cdv A outer s H E) fun c d _ H' => E c d H') (pa : Γ.hot = true → ∀ hd : Option Value, PassesOwnAt (model P w) ((cxOf CX P w W.K mg base N qual scope f cdv A outer s H E).A.mark hd) (cxOf CX P w W.K mg base N qual scope f cdv A outer s H E).A (cxOf CX P w W.K mg base N qual scope f cdv A outer s H E).env (cxOf CX P w W.K mg base N qual scope f cdv A outer s H E).xe) (hr : Room k (A.deeper (PyProof.Rows.envOfC qual scope s.heap.objs.size f cdv)))
    (hmk : Γ.mkr = some scope.names → (PyProof.Rows.envOfC qual scope s.heap.objs.size f cdv).cells = Γ.cl ∧ ∃ c, LamX.TabB base mg c Γ.tabP ∧ cdv = .ref c ∧ (qual ++ ".<locals>.") ++ "<lambda>" = Γ.tabQ)
    {S : Ws} {μ : Mu} {ds : List D} {res : Out D × Mu} (hS : Sg W S H μ) (rv : RepVs W S H vs ds) (hf : runF N.length (runs Γ cs) ds μ = some res) (hk : KF W S H Q E res) :
    ∃ t, PSs (cxOf CX P w W.K mg base N qual scope f cdv A outer s H E) body t ∧ t { nx := fun _ H' => Q .non H', rt := Q } (L2.start N vs) H := by
  have hX : XSt Γ N scope W (fun c d σ H' => E c d H') k (cxOf CX P w W.K mg base N qual scope f cdv A outer s H E) := {
    hN := rfl
    nd := Sc.nd
    hlk := Scopes.refl
    hK := rfl
    calm := rfl
    tk := tk
    tk2 := tk2
    pa := pa
    fnsH := fun i g e => ⟨⟨(hM.fnsH i g e).1⟩, (hM.fnsH i g e).2⟩
    room := hr
    fn := fun _ _ => rfl
    fns := fun i g e => ⟨⟨(hM.fns i g e).1⟩, (hM.fns i g e).2⟩
    consts := fun i c e => ⟨hM.consts i c e⟩
    clss := hM.clss
    frees := hM.frees
    isi := hM.isi
    flds := hM.flds
    meths := fun i g e => ⟨⟨(hM.meths i g e).1⟩, (hM.meths i g e).2⟩
    props := fun i g e => ⟨⟨(hM.props i g e).1⟩, (hM.props i g e).2⟩
    makes := fun i g e => ⟨⟨(hM.makes i g e).1⟩, (hM.makes i g e).2⟩
    eqs := fun i g e => ⟨⟨(hM.eqs i g e).1⟩, (hM.eqs i g e).2⟩
    kcs := fun i g e => ⟨⟨(hM.kcs i g e).1⟩, (hM.kcs i g e).2⟩
    kms := fun i g e => ⟨⟨(hM.kms i g e).1⟩, (hM.kms i g e).2⟩
    kss := fun i g e => ⟨⟨(hM.kss i g e).1⟩, (hM.kss i g e).2⟩
    o1s := fun i g e => ⟨⟨(hM.o1s i g e).1⟩, (hM.o1s i g e).2⟩
    us := hM.us
    b2s := hM.b2s
    cvs := hM.cvs
    wds := hM.wds
    exs := hM.exs
    xt := hM.xt
    hfs := hM.hfs
    ctch := hM.ctch
    lam := hM.lam
    lamB := hM.lamB
    noT := hM.noT
    mkr := fun e => let ⟨a, c, h1, h2, h3⟩ := hmk e; ⟨a, fun _ => rfl, c, ⟨h1, h2, h3⟩⟩
    hex := rfl
    hstk := rfl
    hfrm := rfl
    hsc := rfl
    hkind := Sc.kind
    po := passes_of rfl }
  refine ⟨_, sndCs cs body hc hX, ?_⟩
  unfold runF at hf
  cases hr' : runs Γ cs (env0 N.length ds) μ with
  | none => rw [hr'] at hf; cases hf
  | some r =>
    rw [hr'] at hf
    refine ⟨hand S, μ, env0 N.length ds, r, hS.hand, envOk_start (rv.later (lt_hand (k := fun _ => False) fun _ h => h.elim)), hr', ?_⟩
    obtain ⟨o, μ'⟩ := r
    cases o with
    | nx e =>
      cases hf
      exact fun S' H' σ' l g _ => hk (back S S') H' .non (back_lt hS l) (back_sg hS l g) .non
    | rt d =>
      cases hf
      exact fun S' H' v l g r => hk (back S S') H' v (back_lt hS l) (back_sg hS l g) (r.mono (back_mono hS l).1 (back_mono hS l).2)
    | br e => cases hf
    | ct e => cases hf
    | exc c fs e =>
      cases hf
      exact fun S' H' σ' dd vs l g _ h1 h2 h3 => hk (back S S') H' dd vs (back_lt hS l) (back_sg hS l g) h1 ((back_mono hS l).1 dd _ h2 h1).1 (h3.mono (back_mono hS l).1 (back_mono hS l).2)
theorem bodyE {qual : Str} {body : List Stmt} {scope : Scope} {f : Addr} {N ps : List Str} {cs : Cs} (Sc : FnScope N ps scope) (hM : MOk Γ W P w mg base k) (hc : chkCs Γ N scope cs body = true) (cdv : Value) (A : Around) (outer : List PySem.Env) (s : Shared) (H : Hp) (vs : List V) (Q : VK) (E : XK) (hh : Γ.hot = false) (hr : Room k (A.deeper (PyProof.Rows.envOfC qual scope s.heap.objs.size f cdv)))
    (hmk : Γ.mkr = some scope.names → (PyProof.Rows.envOfC qual scope s.heap.objs.size f cdv).cells = Γ.cl ∧ ∃ c, LamX.TabB base mg c Γ.tabP ∧ cdv = .ref c ∧ (qual ++ ".<locals>.") ++ "<lambda>" = Γ.tabQ)
    {S : Ws} {μ : Mu} {ds : List D} {res : Out D × Mu} (hS : Sg W S H μ) (rv : RepVs W S H vs ds) (hf : runF N.length (runs Γ cs) ds μ = some res) (hk : KF W S H Q E res) :
    ∃ t, PSs (cxOf (L2N.CX P w) P w W.K mg base N qual scope f cdv A outer s H E) body t ∧ t { nx := fun _ H' => Q .non H', rt := Q } (L2.start N vs) H :=
  bodyG Sc hM hc cdv A outer s H vs Q E (L2N.takes_of rfl rfl rfl rfl) (fun z => by rw [hh] at z; cases z) (fun z => by rw [hh] at z; cases z) hr hmk hS rv hf hk
theorem FunD.okE {x qual : Str} {params : Arguments} {body : List Stmt} {scope : Scope} {dvs : List V} {kws : List (Str × V)} {f : Addr} {fd : FuncData} {N ps : List Str} {cs : Cs}
    (F : FunD W.K x qual params body scope dvs kws f fd) (Sc : FnScope N ps scope) (hM : MOk Γ W P w mg base k) (hc : chkCs Γ N scope cs body = true) (hm : Γ.mkr = none := by rfl) (hh : Γ.hot = false := by rfl) :
    FnOk P w W.K mg base (L2N.CX P w) (k + 1) f fd ps (spF W ps.length (runF N.length (runs Γ cs))) := by
  refine F.ok Sc (fun vs H Q E h => h.1) fun cdv A outer s H vs Q E hr ⟨hl, S, μ, ds, res, hS, rv, hf, hk⟩ => bodyE Sc hM hc cdv A outer s H vs Q E hh hr (fun e => by rw [hm] at e; cases e) hS rv hf hk
/-- what a def with a star parameter binds: the first np values, the keywords' values (and the lacking ones'), in the order of ps, then the tuple of the rest -/
structure SBn (K : PySem.W.Frag) (fd : FuncData) (ps : List Str) (pv : Str) (np : Nat) (ks : List Str) (g : List Value → List Value → List Value) (gV : List V → List V → List V) : Prop where
  to : ∀ (s : Shared) (us rest ws : List Value), K.In s.heap → us.length = np → ws.length = ks.length → ∀ (M : Model) (A : Around) (E : Value → Shared → Prop) (Q : List (Str × Value) → Shared → Prop),
    wpAny M A (newTuple rest >>= fun t => pure (ps.zip (g us ws) ++ [(pv, t)])) Q E s → wpAny M A (bindArgs fd ⟨us ++ rest, ks.zip ws⟩) Q E s
  rel : ∀ {vs : List V} {us : List Value} {zs : List V} {ws : List Value}, Vals vs us → Vals zs ws → Vals (gV vs zs) (g us ws)
def FKeep (W : Wd) (P : Program) (w : World) (mg : Str → Option Value) (base : Heap) (g : GFn) : Prop := ∃ f fd ps dvs dus, FnOk P w W.K mg base (L2N.CX P w) g.lvl f fd ps (spF W g.n g.F) ∧ mg g.name = some (.ref f) ∧ PySem.W.keepIn W.K (.ref f) = true ∧ Binds W.K fd ps dus ∧ Vals dvs dus ∧ ∀ S H, RepVs W S H dvs g.dds
def FKeepH (W : Wd) (P : Program) (w : World) (mg : Str → Option Value) (base : Heap) (g : GFn) : Prop := ∃ f fd ps dvs dus, FnOk P w W.K mg base (L2.CX P w) g.lvl f fd ps (spF W g.n g.F) ∧ mg g.name = some (.ref f) ∧ PySem.W.keepIn W.K (.ref f) = true ∧ Binds W.K fd ps dus ∧ Vals dvs dus ∧ ∀ S H, RepVs W S H dvs g.dds
def MKeep (W : Wd) (P : Program) (w : World) (mg : Str → Option Value) (base : Heap) (g : GM) : Prop := ∃ f fd ps dvs dus, FnOk P w W.K mg base (L2N.CX P w) g.lvl f fd ps (spF W g.n g.F) ∧ Cls W.K (W.ca g.cls) ∧ Meth W.K (W.ca g.cls) g.name f ∧ Binds W.K fd ps dus ∧ Vals dvs dus ∧ ∀ S H, RepVs W S H dvs g.dds
def PKeep (W : Wd) (P : Program) (w : World) (mg : Str → Option Value) (base : Heap) (g : GM) : Prop := ∃ pp f fd ps dvs dus, FnOk P w W.K mg base (L2N.CX P w) g.lvl f fd ps (spF W g.n g.F) ∧ Cls W.K (W.ca g.cls) ∧ PropOf W.K (W.ca g.cls) g.name pp f ∧ Binds W.K fd ps dus ∧ Vals dvs dus ∧ ∀ S H, RepVs W S H dvs g.dds
def KKeep (W : Wd) (P : Program) (w : World) (mg : Str → Option Value) (base : Heap) (g : GMk) : Prop := ∃ f fd ps gB gV, FnOk P w W.K mg base (L2N.CX P w) g.lvl f fd ps (spF W g.n g.F) ∧ Mk W.K (W.ca g.cls) f ∧ mg g.name = some (.ref (W.ca g.cls)) ∧ KBn W.K fd ps (g.np + 1) g.ks gB gV ∧ ArrOk W gV g.arr
def EKeep (W : Wd) (P : Program) (w : World) (mg : Str → Option Value) (base : Heap) (g : GM) : Prop := ∃ f fd ps, FnOk P w W.K mg base (L2N.CX P w) g.lvl f fd ps (spF W 2 g.F) ∧ ClsOk W g.cls ∧ PySem.W.findIn W.K (.ref (W.ca g.cls)) "__eq__" = some (some (.ref f)) ∧ PySem.W.isFn W.K (.ref f) = true ∧ Binds W.K fd ps [] ∧ NeFacts W.K (W.ca g.cls) f
def KcKeep (W : Wd) (P : Program) (w : World) (mg : Str → Option Value) (base : Heap) (g : GK) : Prop := ∃ f fd ps gB gV, FnOk P w W.K mg base (L2N.CX P w) g.lvl f fd ps (spF W g.n g.F) ∧ mg g.name = some (.ref f) ∧ PySem.W.keepIn W.K (.ref f) = true ∧ KBn W.K fd ps g.np g.ks gB gV ∧ ArrOk W gV g.arr
def KmKeep (W : Wd) (P : Program) (w : World) (mg : Str → Option Value) (base : Heap) (g : GK) : Prop := ∃ f fd ps gB gV, FnOk P w W.K mg base (L2N.CX P w) g.lvl f fd ps (spF W g.n g.F) ∧ Cls W.K (W.ca g.cls) ∧ Meth W.K (W.ca g.cls) g.name f ∧ KBn W.K fd ps (1 + g.np) g.ks gB gV ∧ ArrOk W gV g.arr
def KsKeep (W : Wd) (P : Program) (w : World) (mg : Str → Option Value) (base : Heap) (g : GK) : Prop := ∃ mc pp f fd ps gB gV, FnOk P w W.K mg base (L2N.CX P w) g.lvl f fd ps (spF W g.n g.F) ∧ mg g.cname = some (.ref (W.ca g.cls)) ∧ SMet W.K (W.ca g.cls) mc g.name pp f ∧ KBn W.K fd ps g.np g.ks gB gV ∧ ArrOk W gV g.arr
def OKeep (W : Wd) (P : Program) (w : World) (mg : Str → Option Value) (base : Heap) (g : GO) : Prop := ∃ f fd ps, FnOk P w W.K mg base (L2N.CX P w) g.lvl f fd ps (spF W 1 g.F) ∧ PySem.W.findIn W.K (.ref (W.ca g.cls)) g.k.dunder = some (some (.ref f)) ∧ PySem.W.isFn W.K (.ref f) = true ∧ Binds W.K fd ps []
theorem lamOk_none {k : Nat} : LamOk W P w mg base k (fun _ _ => failE) := fun A outer s H f n cl ds S μ res Q E hr e0 g rv h0 hf hk => nomatch hf
theorem LamOk.mono {k k' : Nat} {LF : Nat → List (Str × D) → EM D} (h : LamOk W P w mg base k LF) (l : k ≤ k') : LamOk W P w mg base k' LF := fun A outer s H f n cl ds S μ res Q E hr e0 g rv h0 hf hk => h A outer s H f n cl ds S μ res Q E (hr.mono l) e0 g rv h0 hf hk
/-- what the module holds but the defs -/
structure M0k (Γ : Gam) (W : Wd) (mg : Str → Option Value) : Prop where
  consts : ∀ (i : Nat) c, Γ.consts[i]? = some c → ∃ v u, mg c.name = some u ∧ RelV v u ∧ ∀ S H, RepV W S H v c.d
  clss : ∀ x c, (x, c) ∈ Γ.clss → mg x = some (.ref (W.ca c))
  frees : ∀ x, x ∈ Γ.frees → mg x = none
  isi : IsiOk W Γ.isi
  flds : FldOk W Γ.flds
  xt : XtOk W Γ.xt := by exact fun c f h => absurd h List.not_mem_nil
  ctch : ∀ c hs, (c, hs) ∈ Γ.ctch → PySem.W.exmAny W.K (.ref (W.ca c)) (hs.map fun h => .ref (W.ca h)) = some true := by exact fun c f h => absurd h List.not_mem_nil
  lamB : ∀ n b p e z, Γ.lamB n b p e z = true → W.lamB n b p e z = true := by exact fun n b p e z h => nomatch h
  noT : Γ.noT = true → noTup W.K = true := by exact fun h => absurd h Bool.false_ne_true
structure Tabs' where
  fns : List GFn := []
  meths : List GM := []
  props : List GM := []
  makes : List GMk := []
  eqs : List GM := []
  kcs : List GK := []
  kms : List GK := []
  kss : List GK := []
  o1s : List GO := []
  us : List GU := []
  b2s : List GB := []
  cvs : List GCv := []
  wds : List GWd := []
  exs : List GX := []
  hfs : List GH := []
  LF : Nat → List (Str × D) → EM D := fun _ _ => failE
  lamL : Nat := 0
  fnsH : List GFn := []
  hot : Bool := false
def Tabs'.lvlX (T : Tabs') (k : Nat) : Bool := (T.exs.isEmpty || decide (1 ≤ k)) && (T.hfs.all (fun g => g.lvl ≤ k) && (T.fnsH.all (fun g => g.lvl ≤ k) && (decide (T.lamL ≤ k) && T.b2s.all (fun g => g.lvl + 1 ≤ k))))
def Tabs'.lvl (T : Tabs') (k : Nat) : Bool := T.lvlX k && (T.fns.all (fun g => g.lvl ≤ k) && (T.meths.all (fun g => g.lvl ≤ k) && (T.props.all (fun g => g.lvl + 1 ≤ k) && (T.makes.all (fun g => g.lvl + 1 ≤ k) && (T.eqs.all (fun g => g.lvl + 1 ≤ k) && (T.kcs.all (fun g => g.lvl ≤ k) && (T.kms.all (fun g => g.lvl ≤ k) && (T.kss.all (fun g => g.lvl ≤ k) && (T.o1s.all (fun g => g.lvl + 1 ≤ k) && T.us.all (fun g => g.lvl + 1 ≤ k))))))))))
def Gam.put (Γ : Gam) (T : Tabs') : Gam := { Γ with fns := T.fns, meths := T.meths, props := T.props, makes := T.makes, eqs := T.eqs, kcs := T.kcs, kms := T.kms, kss := T.kss, o1s := T.o1s, us := T.us, b2s := T.b2s, cvs := T.cvs, wds := T.wds, exs := T.exs, hfs := T.hfs, LF := T.LF, fnsH := T.fnsH, hot := T.hot }
structure TabsOk (T : Tabs') (W : Wd) (P : Program) (w : World) (mg : Str → Option Value) (base : Heap) : Prop where
  fns : ∀ g ∈ T.fns, FKeep W P w mg base g := by exact List.forall_mem_nil _
  fnsH : ∀ g ∈ T.fnsH, FKeepH W P w mg base g := by exact List.forall_mem_nil _
  meths : ∀ g ∈ T.meths, MKeep W P w mg base g := by exact List.forall_mem_nil _
  props : ∀ g ∈ T.props, PKeep W P w mg base g := by exact List.forall_mem_nil _
  makes : ∀ g ∈ T.makes, KKeep W P w mg base g := by exact List.forall_mem_nil _
  eqs : ∀ g ∈ T.eqs, EKeep W P w mg base g := by exact List.forall_mem_nil _
  kcs : ∀ g ∈ T.kcs, KcKeep W P w mg base g := by exact List.forall_mem_nil _
  kms : ∀ g ∈ T.kms, KmKeep W P w mg base g := by exact List.forall_mem_nil _
  kss : ∀ g ∈ T.kss, KsKeep W P w mg base g := by exact List.forall_mem_nil _
  o1s : ∀ g ∈ T.o1s, OKeep W P w mg base g := by exact List.forall_mem_nil _
  us : ∀ g ∈ T.us, GUOk W P w mg base g := by exact List.forall_mem_nil _
  b2s : ∀ g ∈ T.b2s, GBOk W P w mg base g := by exact List.forall_mem_nil _
  cvs : ∀ g ∈ T.cvs, GCvOk W mg g := by exact List.forall_mem_nil _
  wds : ∀ g ∈ T.wds, GWdOk W w mg g := by exact List.forall_mem_nil _
  exs : ∀ g ∈ T.exs, GXOk W P mg g := by exact List.forall_mem_nil _
  hfs : ∀ g ∈ T.hfs, GHOk W P w mg base g := by exact List.forall_mem_nil _
  lam : LamOk W P w mg base T.lamL T.LF := by exact lamOk_none
theorem mok_of {Γ0 : Gam} {T : Tabs'} (h : M0k Γ0 W mg) (hT : TabsOk T W P w mg base) (hl : T.lvl k = true) : MOk (Γ0.put T) W P w mg base k := by
  simp only [Tabs'.lvl, Tabs'.lvlX, Bool.and_eq_true, Bool.or_eq_true, List.all_eq_true, decide_eq_true_eq] at hl
  obtain ⟨⟨x1, x2, x5, x3, x4⟩, l1, l2, l3, l4, l5, l6, l7, l8, l9, l10⟩ := hl
  exact {
    fns := fun i g e => ⟨hT.fns g (List.mem_of_getElem? e), l1 g (List.mem_of_getElem? e)⟩
    fnsH := fun i g e => ⟨hT.fnsH g (List.mem_of_getElem? e), x5 g (List.mem_of_getElem? e)⟩
    consts := h.consts, clss := h.clss, frees := h.frees, isi := h.isi, flds := h.flds, xt := h.xt, ctch := h.ctch, lamB := h.lamB, noT := h.noT
    exs := fun i g e => ⟨hT.exs g (List.mem_of_getElem? e), x1.resolve_left fun z => by
      have hm := List.mem_of_getElem? e
      have z : T.exs = [] := by simpa using z
      rw [show (Γ0.put T).exs = T.exs from rfl, z] at hm; cases hm⟩
    hfs := fun i g e => ⟨hT.hfs g (List.mem_of_getElem? e), x2 g (List.mem_of_getElem? e)⟩
    lam := hT.lam.mono x3
    meths := fun i g e => ⟨hT.meths g (List.mem_of_getElem? e), l2 g (List.mem_of_getElem? e)⟩
    props := fun i g e => ⟨hT.props g (List.mem_of_getElem? e), l3 g (List.mem_of_getElem? e)⟩
    makes := fun i g e => ⟨hT.makes g (List.mem_of_getElem? e), l4 g (List.mem_of_getElem? e)⟩
    eqs := fun i g e => ⟨hT.eqs g (List.mem_of_getElem? e), l5 g (List.mem_of_getElem? e)⟩
    kcs := fun i g e => ⟨hT.kcs g (List.mem_of_getElem? e), l6 g (List.mem_of_getElem? e)⟩
    kms := fun i g e => ⟨hT.kms g (List.mem_of_getElem? e), l7 g (List.mem_of_getElem? e)⟩
    kss := fun i g e => ⟨hT.kss g (List.mem_of_getElem? e), l8 g (List.mem_of_getElem? e)⟩
    o1s := fun i g e => ⟨hT.o1s g (List.mem_of_getElem? e), l9 g (List.mem_of_getElem? e)⟩
    us := fun i g e => ⟨hT.us g (List.mem_of_getElem? e), l10 g (List.mem_of_getElem? e)⟩
    cvs := fun i g e => hT.cvs g (List.mem_of_getElem? e)
    wds := fun i g e => hT.wds g (List.mem_of_getElem? e)
    b2s := fun i g e => ⟨hT.b2s g (List.mem_of_getElem? e), x4 g (List.mem_of_getElem? e)⟩ }
theorem FnOk.stuck {f : Addr} {fd : FuncData} {ps : List Str} {n : Nat} : FnOk P w W.K mg base (L2N.CX P w) k f fd ps (spF W n fun _ _ => none) :=
  ⟨(fun vs H Q E ⟨_, S, μ, ds, res, _, _, hf, _⟩ => nomatch hf), (fun A outer s H args us vs Q E _ _ _ _ ⟨_, S, μ, ds, res, _, _, hf, _⟩ => nomatch hf)⟩
end
/-! the end of a law -/
theorem FnOk.calmE {W : Wd} {P : Program} {w : World} {mg : Str → Option Value} {base : Heap} {k : Nat} {f : Addr} {fd : FuncData} {ps : List Str} {sp : Sp} (F : FnOk P w W.K mg base (L2N.CX P w) k f fd ps sp) : FnOk P w W.K mg base CX0 k f fd ps (fun vs H Q _ => sp vs H Q fun _ _ _ => False) :=
  ⟨fun vs H Q _ h => F.len vs H Q _ h, fun A outer s H args us vs Q E h1 h2 h3 h4 h5 => codeAny_mono (F.run A outer s H args us vs Q _ h1 h2 h3 h4 h5) fun r s' z => by
    cases r with
    | ok r => cases r <;> exact z
    | error e =>
      obtain ⟨_, _, _, _, _, _, _, _, _, _, _, _, z⟩ := z
      exact z.elim⟩
def lawW (K : PySem.W.Frag) (cls : List Str) (lamB : Nat → Bool → Arguments → Expr → Scope → Bool := fun _ _ _ _ _ => false) : Wd := { K := K, ca := fun n => He.ga K (cls.getD n ""), lamB := lamB }
theorem law_sp {W : Wd} {F : Fn} (hF : ∀ ns : List Int, ns.length ≤ 63 → ∃ μ, F [.scr ns] [] = some (.ok (.bl true), μ)) (H : Hp) (a : Addr) (ns : List Int) (hl : ns.length ≤ 63) (hS : SqL W.K H a (ns.map V.int)) :
    spF W 1 F [.ref a] H (fun v _ => v = .bl true) fun _ _ _ => False := by
  obtain ⟨μ, e⟩ := hF ns hl
  refine ⟨rfl, ⟨[], fun _ => none⟩, [], [.scr ns], _, ⟨(fun a w e => nomatch e), rfl, (fun n c e _ => nomatch e), ⟨fun cl ds e => nomatch e⟩⟩, .cons ?_ .nil, e, fun S' H' v l g r => by cases r; rfl⟩
  have hb : ns.length ≤ big := Nat.le_trans hl (by decide)
  rcases hS with (hS | ⟨o, hS⟩) | hS
  · exact .scr hS rfl (.inl rfl) hb
  · exact .scr hS rfl (.inr ⟨o, rfl⟩) hb
  · exact .scrK (.inr hS) hb
end EG
namespace EG
open PySem PySem.Spec PyProof.Rows L2
/-! what the module holds, as decided facts -/
def recG (K : PySem.W.Frag) (p : Addr) (T : String) : Addr := match PySem.W.recIn K p T with
  | some (.ref g :: _) => g
  | _ => 0
/-- where a def stands: 0 a global, 1 a method, 2 a property's getter, 3 a static method, 4 a classmethod -/
def dAd (K : PySem.W.Frag) (k : Nat) (x m : Str) : Addr := match k with
  | 0 => He.ga K x
  | 1 => He.ma K (He.ga K x) m
  | 2 => recG K (He.ma K (He.ga K x) m) "property"
  | 3 => recG K (He.ma K (He.ga K x) m) "staticmethod"
  | _ => recG K (He.ma K (He.ga K x) m) "classmethod"
mutual
/-- a value of the written part is this data -/
def cstB (K : PySem.W.Frag) : D → Value → Bool
  | .non, u => (match u with | .none => true | _ => false)
  | .bl b, u => (match u with | .bool c => b == c | _ => false)
  | .int i, u => (match u with | .int j _ => decide (i = j) | _ => false)
  | .str s, u => (match u with | .str t _ => decide (s = t) && decide (s.length ≤ big) | _ => false)
  | .tup ds, u => (match u with
    | .ref a => (match K.lookup a with
      | some ⟨.type c, _, .seq its _, _⟩ => decide (c = "tuple") && (decide (its.size ≤ big) && cstBs K ds its.toList)
      | _ => false)
    | _ => false)
  | _, _ => false
def cstBs (K : PySem.W.Frag) : List D → List Value → Bool
  | [], us => us.isEmpty
  | d :: ds, us => (match us with
    | [] => false
    | u :: us => cstB K d u && cstBs K ds us)
end
def vOf : Value → V
  | .none => .non
  | .bool b => .bl b
  | .int i _ => .int i
  | .str s _ => .str s
  | .ref a => .ref a
  | _ => .non
mutual
theorem cst_ok {W : Wd} : ∀ (d : D) (u : Value), cstB W.K d u = true → RelV (vOf u) u ∧ ∀ S H, RepV W S H (vOf u) d
  | .non, u, h => by
    unfold cstB at h
    split at h
    · exact ⟨rfl, fun _ _ => .non⟩
    · cases h
  | .bl b, u, h => by
    unfold cstB at h
    split at h
    · cases beq_iff_eq.mp h
      exact ⟨rfl, fun _ _ => .bl _⟩
    · cases h
  | .int i, u, h => by
    unfold cstB at h
    split at h
    · cases of_decide_eq_true h
      exact ⟨⟨_, rfl⟩, fun _ _ => .int _⟩
    · cases h
  | .str i, u, h => by
    unfold cstB at h
    split at h
    · rw [Bool.and_eq_true] at h
      cases of_decide_eq_true h.1
      exact ⟨⟨_, rfl⟩, fun _ _ => .str _ (of_decide_eq_true h.2)⟩
    · cases h
  | .tup ds, u, h => by
    unfold cstB at h
    split at h
    · rename_i a
      split at h
      · rename_i c od its n sl q
        simp only [Bool.and_eq_true, decide_eq_true_eq] at h
        obtain ⟨h1, h2, h3⟩ := h
        obtain ⟨r1, r2⟩ := csts_ok ds its.toList h3
        have hl : (its.toList.map vOf).length ≤ big := by simpa using h2
        exact ⟨rfl, fun S H => .tupK (vs := its.toList.map vOf) (.inr ⟨_, its, n, q, congrArg Value.type h1, rfl, Nat.le_trans h2 big_le, r1⟩) hl (r2 S H)⟩
      · cases h
    · cases h
  | .lst _, u, h => by unfold cstB at h; cases h
  | .obj _ _, u, h => by unfold cstB at h; cases h
  | .cell _, u, h => by unfold cstB at h; cases h
  | .scr _, u, h => by unfold cstB at h; cases h
  | .dK _, u, h => by unfold cstB at h; cases h
  | .dT _, u, h => by unfold cstB at h; cases h
  | .err _ _, u, h => by unfold cstB at h; cases h
  | .clo _ _, u, h => by unfold cstB at h; cases h
  | .cls _, u, h => by unfold cstB at h; cases h
theorem csts_ok {W : Wd} : ∀ (ds : List D) (us : List Value), cstBs W.K ds us = true → Vals (us.map vOf) us ∧ ∀ S H, RepVs W S H (us.map vOf) ds
  | [], us, h => by
    unfold cstBs at h
    cases us with
    | nil => exact ⟨.nil, fun _ _ => .nil⟩
    | cons u us => cases h
  | d :: ds, us, h => by
    unfold cstBs at h
    cases us with
    | nil => cases h
    | cons u us =>
      simp only [Bool.and_eq_true] at h
      obtain ⟨r1, r2⟩ := cst_ok d u h.1
      obtain ⟨r3, r4⟩ := csts_ok ds us h.2
      exact ⟨.cons r1 r3, fun S H => .cons (r2 S H) (r4 S H)⟩
end
inductive TagN where
  | ty (n : String) | cls (x : Str)
def TagN.v (K : PySem.W.Frag) : TagN → Value
  | .ty n => .type n
  | .cls x => .ref (He.ga K x)
inductive FaN where
  | old (f : He.Fa)
  | cst (x : Str) (d : D)
  | prop (x m : Str)
  | smet (x m : Str)
  | cmet (x m : Str)
  | bmet (x m : Str)
  | eqf (x : Str)
  | dun (x m : Str)
  | clsok (x : Str)
  | isi (t c : TagN) (b : Bool)
  | noT
  | slf (x : Str)
  | cval (x f : Str) (d : D)
def FaN.ok (K : PySem.W.Frag) : FaN → Bool
  | .old f => f.ok K
  | .cst x d => (match PySem.W.nsIn K mainGlobals x with
    | some (some u) => cstB K d u
    | _ => false)
  | .prop x m => He.eqO (PySem.W.findIn K (.ref (He.ga K x)) m) (some (some (.ref (He.ma K (He.ga K x) m)))) && (He.eqO (PySem.W.specialIn K (.ref (He.ma K (He.ga K x) m)) "__get__") (some (some (.builtin "property.__get__"))) &&
      (decide (PySem.W.takesIn K (.ref (He.ma K (He.ga K x) m)) = some true) && (match PySem.W.recIn K (He.ma K (He.ga K x) m) "property" with
        | some (.ref _ :: _) => true
        | _ => false)))
  | .smet x m => PySem.W.readsIn K (He.ga K x) (.type "type") && (He.eqO (PySem.W.specialIn K (.ref (He.ga K x)) "__getattribute__") (some (some (.builtin "type.__getattribute__"))) &&
      ((match PySem.W.findCls K (.ref (He.ga K x)) (.type "type") m with
        | some (.get g p o c) => decide (g = .builtin "staticmethod.__get__") && (decide (p = .ref (He.ma K (He.ga K x) m)) && (decide (o = .none) && decide (c = .ref (He.ga K x))))
        | _ => false) && ((match PySem.W.recIn K (He.ma K (He.ga K x) m) "staticmethod" with
        | some (.ref _ :: _) => true
        | _ => false) && PySem.W.keepIn K (.ref (dAd K 3 x m)))))
  | .cmet x m => PySem.W.readsIn K (He.ga K x) (.type "type") && (He.eqO (PySem.W.specialIn K (.ref (He.ga K x)) "__getattribute__") (some (some (.builtin "type.__getattribute__"))) &&
      ((match PySem.W.findCls K (.ref (He.ga K x)) (.type "type") m with
        | some (.get g p o c) => decide (g = .builtin "classmethod.__get__") && (decide (p = .ref (He.ma K (He.ga K x) m)) && (decide (o = .none) && decide (c = .ref (He.ga K x))))
        | _ => false) && ((match PySem.W.recIn K (He.ma K (He.ga K x) m) "classmethod" with
        | some (.ref _ :: _) => true
        | _ => false) && PySem.W.fnIn K (dAd K 4 x m))))
  | .bmet x m => (He.Fa.meth x m).ok K && (He.eqO (PySem.W.specialIn K (.ref (He.ma K (He.ga K x) m)) "__get__") (some (some (.builtin "function.__get__"))) && (decide (PySem.W.takesIn K (.ref (He.ma K (He.ga K x) m)) = some false) &&
      (!(PySem.W.copiedNames.contains m) && PySem.W.fnIn K (He.ma K (He.ga K x) m))))
  | .eqf x => He.eqO (PySem.W.findIn K (.ref (He.ga K x)) "__ne__") (some (some (.builtin "object.__ne__"))) && (decide (PySem.W.mroIn K (He.ga K x) (.type "object") = some true) && (He.eqO (PySem.W.findIn K (.ref (He.ga K x)) "__eq__") (some (some (.ref (He.ma K (He.ga K x) "__eq__")))) &&
      PySem.W.isFn K (.ref (He.ma K (He.ga K x) "__eq__"))))
  | .dun x m => He.eqO (PySem.W.findIn K (.ref (He.ga K x)) m) (some (some (.ref (He.ma K (He.ga K x) m)))) && PySem.W.isFn K (.ref (He.ma K (He.ga K x) m))
  | .clsok x => (He.Fa.cls x).ok K && (He.eqO (PySem.W.findIn K (.ref (He.ga K x)) "__class__") (some (some (.builtin "object.__class__"))) && (He.eqO (PySem.W.specialIn K (.builtin "object.__class__") "__get__") (some (some (.builtin "getset_descriptor.__get__"))) &&
      (decide (PySem.W.takesIn K (.builtin "object.__class__") = some true) && decide (PySem.W.mroIn K (He.ga K x) (.type "object") = some true))))
  | .isi t c b => decide (PySem.W.kitOne K (t.v K) (c.v K) = some b)
  | .noT => noTup K
  | .slf x => PySem.W.selfFirst K (He.ga K x)
  | .cval x f d => PySem.W.readsIn K (He.ga K x) (.type "type") && (He.eqO (PySem.W.specialIn K (.ref (He.ga K x)) "__getattribute__") (some (some (.builtin "type.__getattribute__"))) &&
      (match PySem.W.findCls K (.ref (He.ga K x)) (.type "type") f with
        | some (.val u) => cstB K d u
        | _ => false))
section
variable {K : PySem.W.Frag} {h : Heap} {mg : Str → Option Value} {x m : Str}
theorem FaN.cst_ok {W : Wd} (X : W.K.In h) (G : h.Ns mainGlobals mg) {d : D} (c : (FaN.cst x d).ok W.K = true) : ∃ v u, mg x = some u ∧ RelV v u ∧ ∀ S H, RepV W S H v d := by
  have c : (match PySem.W.nsIn W.K mainGlobals x with
    | some (some u) => cstB W.K d u
    | _ => false) = true := c
  split at c
  · rename_i u q
    obtain ⟨a, b⟩ := EG.cst_ok d u c
    exact ⟨_, u, PySem.W.mg_of X G q, a, b⟩
  · cases c
theorem FaN.clsok_ok {W : Wd} {n : Nat} (hn : W.ca n = He.ga W.K x) (c : (FaN.clsok x).ok W.K = true) : ClsOk W n := by
  obtain ⟨c1, c⟩ := He.ba c
  obtain ⟨c2, c⟩ := He.ba c
  obtain ⟨c3, c⟩ := He.ba c
  obtain ⟨c4, c5⟩ := He.ba c
  exact ⟨by rw [hn]; exact He.cls_ok c1, by rw [hn]; exact He.eqO_ok c2, He.eqO_ok c3, of_decide_eq_true c4, by rw [hn]; exact of_decide_eq_true c5⟩
theorem FaN.isi_ok {t c : TagN} {b : Bool} (e : (FaN.isi t c b).ok K = true) : PySem.W.kitOne K (t.v K) (c.v K) = some b := of_decide_eq_true e
end
/-! defs -/
structure DefN where
  kind : Nat
  x : Str
  m : Str
  name : Str
  qual : Str
  params : Arguments
  body : List Stmt
  scope : Scope
  dfl : List D := []
  kwd : List (Str × D) := []
abbrev FnW : Type := Option (Str × Str × Arguments × FuncBody × Scope × Addr × List (Str × Addr) × Addr)
def fnN (K : PySem.W.Frag) (d : DefN) : FnW := match K.lookup (dAd K d.kind d.x d.m) with
  | some ⟨_, _, .func fd, _⟩ => some (fd.name, fd.qualname, fd.params, fd.body, fd.scope, fd.globals, fd.closure, fd.builtins)
  | _ => none
def DefN.val (d : DefN) : FnW := some (d.name, d.qual, d.params, .stmts d.body, d.scope, mainGlobals, [], builtinsNs)
def dflN (K : PySem.W.Frag) (dV : Value) (ds : List D) : Bool := match ds with
  | [] => (match dV with
    | .none => true
    | _ => false)
  | d :: ds => (match dV with
    | .ref T => (match K.lookup T with
      | some ⟨_, _, .seq its _, _⟩ => cstBs K (d :: ds) its.toList
      | _ => false)
    | _ => false)
def kwdN (K : PySem.W.Frag) (kV : Value) (ks : List (Str × D)) : Bool := match ks with
  | [] => true
  | q :: qs => (match kV with
    | .ref D => (q :: qs).all fun q => (match PySem.W.nsIn K D q.1 with
      | some (some u) => cstB K q.2 u
      | _ => false)
    | _ => false)
def DefN.ok (K : PySem.W.Frag) (d : DefN) : Bool := PySem.W.keepIn K (.ref (dAd K d.kind d.x d.m)) && (match K.lookup (dAd K d.kind d.x d.m) with
  | some ⟨_, _, .func fd, _⟩ => PySem.W.codeIn K fd.code d.qual && (dflN K fd.defaults d.dfl && kwdN K fd.kwdefaults d.kwd)
  | _ => false)
theorem dflN_ok {W : Wd} {dV : Value} {ds : List D} (h : dflN W.K dV ds = true) : ∃ dvs, DflV W.K dV dvs ∧ ∀ S H, RepVs W S H dvs ds := by
  cases ds with
  | nil =>
    cases dV with
    | none => exact ⟨[], .inl ⟨rfl, rfl⟩, fun _ _ => .nil⟩
    | _ => cases h
  | cons d ds =>
    cases dV with
    | ref T =>
      have h1 : (match W.K.lookup T with
        | some ⟨_, _, .seq its _, _⟩ => cstBs W.K (d :: ds) its.toList
        | _ => false) = true := h
      split at h1
      · rename_i its n sl q
        obtain ⟨r1, r2⟩ := csts_ok (d :: ds) its.toList h1
        refine ⟨its.toList.map vOf, .inr ⟨fun z => ?_, T, _, its.toList, n, rfl, q, by simp, r1⟩, r2⟩
        have := r2 ⟨[], fun _ => none⟩ (fun _ => none)
        rw [z] at this
        cases this
      · cases h1
    | _ => cases h
theorem kwdN_all {W : Wd} {A : Addr} : ∀ {ks : List (Str × D)}, (ks.all fun q => (match PySem.W.nsIn W.K A q.1 with
      | some (some u) => cstB W.K q.2 u
      | _ => false)) = true → ∃ kws : List (Str × V), (∀ q ∈ kws, ∃ u, PySem.W.nsIn W.K A q.1 = some (some u) ∧ RelV q.2 u) ∧ kws.map (·.1) = ks.map (·.1) ∧ ∀ S H, RepVs W S H (kws.map (·.2)) (ks.map (·.2))
  | [], _ => ⟨[], (fun q hq => nomatch (show q ∈ ([] : List (Str × V)) from hq)), rfl, (fun _ _ => RepVs.nil)⟩
  | q :: qs, h => by
    rw [List.all_cons, Bool.and_eq_true] at h
    obtain ⟨kws, a1, a2, a3⟩ := kwdN_all h.2
    have h1 := h.1
    split at h1
    · rename_i u e
      obtain ⟨r1, r2⟩ := cst_ok q.2 u h1
      refine ⟨(q.1, vOf u) :: kws, fun p hp => ?_, by simp [a2], fun S H => .cons (r2 S H) (a3 S H)⟩
      rcases List.mem_cons.mp hp with rfl | hp
      · exact ⟨u, e, r1⟩
      · exact a1 p hp
    · cases h1
theorem kwdN_ok {W : Wd} {kV : Value} {ks : List (Str × D)} (h : kwdN W.K kV ks = true) : ∃ kws, KwdV W.K kV kws ∧ kws.map (·.1) = ks.map (·.1) ∧ ∀ S H, RepVs W S H (kws.map (·.2)) (ks.map (·.2)) := by
  cases ks with
  | nil => exact ⟨[], .inl rfl, rfl, fun _ _ => .nil⟩
  | cons q qs =>
    cases kV with
    | ref A =>
      obtain ⟨kws, a1, a2, a3⟩ := kwdN_all (W := W) (A := A) (ks := q :: qs) h
      exact ⟨kws, .inr ⟨A, rfl, a1⟩, a2, a3⟩
    | _ => cases h
/-- a def as it stands, with data for its defaults -/
def DefT (W : Wd) (d : DefN) (f : Addr) (fd : FuncData) (dvs : List V) (kws : List (Str × V)) : Prop := FunD W.K d.name d.qual d.params d.body d.scope dvs kws f fd ∧ (∀ S H, RepVs W S H dvs d.dfl) ∧ kws.map (·.1) = d.kwd.map (·.1) ∧ ∀ S H, RepVs W S H (kws.map (·.2)) (d.kwd.map (·.2))
theorem DefN.funD {W : Wd} {d : DefN} (e : fnN W.K d = d.val) (c : d.ok W.K = true) : ∃ fd dvs kws, DefT W d (dAd W.K d.kind d.x d.m) fd dvs kws := by
  obtain ⟨kp, c2⟩ := He.ba c
  unfold fnN at e
  cases q : W.K.lookup (dAd W.K d.kind d.x d.m) with
  | none =>
    rw [q] at c2
    cases c2
  | some o =>
    obtain ⟨oc, od, dt, osl⟩ := o
    rw [q] at c2 e
    cases dt with
    | func fd =>
      obtain ⟨n1, n2, n3, n4, n5, n6, n7, n8, n9, n10, n11, n12, n13, n14, n15⟩ := fd
      have e2 : (some (n1, n2, n3, n4, n5, n6, n7, n15) : FnW) = some (d.name, d.qual, d.params, .stmts d.body, d.scope, mainGlobals, [], builtinsNs) := e
      simp only [Option.some.injEq, Prod.mk.injEq] at e2
      obtain ⟨h1, h2, h3, h4, h5, h6, h7, h8⟩ := e2
      subst h1 h2 h3 h4 h5 h6 h7 h8
      have c3 : (PySem.W.codeIn W.K n13 d.qual && (dflN W.K n8 d.dfl && kwdN W.K n9 d.kwd)) = true := c2
      obtain ⟨k1, k2⟩ := He.ba c3
      obtain ⟨k3, k4⟩ := He.ba k2
      obtain ⟨dvs, v1, v2⟩ := dflN_ok k3
      obtain ⟨kws, w1, w2, w3⟩ := kwdN_ok k4
      exact ⟨_, dvs, kws, ⟨⟨oc, od, n8, n9, n10, n11, n12, n13, n14, osl, rfl, q, k1, v1, w1⟩, kp⟩, v2, w2, w3⟩
    | _ => cases c2
/-! the hook -/
def growN (g : Addr → Option Obj) : Nat → List Addr → List Addr → List Addr
  | 0, seen, _ => seen
  | n + 1, seen, fr =>
    let nx := ((fr.flatMap fun a => match g a with
      | some o => He.refsD o
      | none => []).filter fun a => !seen.contains a).eraseDups
    growN g n (seen ++ nx) nx
def asN (g : Addr → Option Obj) (n : Nat) : List Addr := growN g n [mainGlobals, cStatics] [mainGlobals]
abbrev AlN : Type := Bool × List FnW
def obsK (fa : List FaN) (fn : List DefN) (K : PySem.W.Frag) : AlN := ((fa.all fun f => f.ok K) && fn.all fun d => d.ok K, fn.map fun d => fnN K d)
def valN (fn : List DefN) : AlN := (true, fn.map DefN.val)
def SaysN (fa : List FaN) (fn : List DefN) (K : PySem.W.Frag) : Prop := obsK fa fn K = valN fn
section
variable {fa : List FaN} {fn : List DefN} {W : Wd}
theorem SaysN.fact {K : PySem.W.Frag} (c : SaysN fa fn K) (i : Nat) {f : FaN} (h : fa[i]? = some f) : f.ok K = true := by
  have c1 := (He.ba (show ((fa.all fun f => f.ok K) && fn.all fun d => d.ok K) = true from congrArg (fun z : AlN => z.1) c)).1
  exact List.all_eq_true.mp c1 f (List.mem_of_getElem? h)
theorem SaysN.def_ (c : SaysN fa fn W.K) (i : Nat) {d : DefN} (h : fn[i]? = some d) : ∃ fd dvs kws, DefT W d (dAd W.K d.kind d.x d.m) fd dvs kws := by
  have c2 := (He.ba (show ((fa.all fun f => f.ok W.K) && fn.all fun d => d.ok W.K) = true from congrArg (fun z : AlN => z.1) c)).2
  have e : fn.map (fun d => fnN W.K d) = fn.map DefN.val := congrArg (fun z : AlN => z.2) c
  have e2 : (fn.map fun d => fnN W.K d)[i]? = (fn.map DefN.val)[i]? := by rw [e]
  rw [List.getElem?_map, List.getElem?_map, h] at e2
  exact DefN.funD (Option.some.inj e2) (List.all_eq_true.mp c2 d (List.mem_of_getElem? h))
end
end EG
namespace EG
open PySem PySem.Spec PyProof.Rows L2
/-! what a call binds: places, defaults, lacking keywords' defaults, keywords -/
inductive Pick where
  | p (i : Nat) | d (i : Nat) | m (i : Nat) | k (i : Nat)
def Pick.of {α : Type} (vs ds ms zs : List α) : Pick → Option α
  | .p i => vs[i]?
  | .d i => ds[i]?
  | .m i => ms[i]?
  | .k i => zs[i]?
def arrP {α : Type} (pk : List Pick) (vs ds ms zs : List α) : List α := match pk with
  | [] => []
  | q :: r => match q.of vs ds ms zs with
    | some a => a :: arrP r vs ds ms zs
    | none => arrP r vs ds ms zs
section
variable {W : Wd} {S : Ws} {H : Hp}
theorem RepVs.getO {vs : List V} {ds : List D} (h : RepVs W S H vs ds) (i : Nat) : (vs[i]? = none ∧ ds[i]? = none) ∨ ∃ v d, vs[i]? = some v ∧ ds[i]? = some d ∧ RepV W S H v d := by
  cases e : ds[i]? with
  | some d => obtain ⟨v, h1, h2⟩ := h.get e; exact .inr ⟨v, d, h1, rfl, h2⟩
  | none =>
    refine .inl ⟨?_, rfl⟩
    rw [List.getElem?_eq_none_iff] at e ⊢
    rw [h.length]; exact e
theorem arrP_rep {vs dv mv zv : List V} {ds dd md zd : List D} (h1 : RepVs W S H vs ds) (h2 : RepVs W S H dv dd) (h3 : RepVs W S H mv md) (h4 : RepVs W S H zv zd) : ∀ pk : List Pick, RepVs W S H (arrP pk vs dv mv zv) (arrP pk ds dd md zd)
  | [] => .nil
  | q :: r => by
    have key : (q.of vs dv mv zv = none ∧ q.of ds dd md zd = none) ∨ ∃ v d, q.of vs dv mv zv = some v ∧ q.of ds dd md zd = some d ∧ RepV W S H v d := by
      cases q with
      | p i => exact h1.getO i
      | d i => exact h2.getO i
      | m i => exact h3.getO i
      | k i => exact h4.getO i
    unfold arrP
    rcases key with ⟨e1, e2⟩ | ⟨v, d, e1, e2, rv⟩
    · rw [e1, e2]; exact arrP_rep h1 h2 h3 h4 r
    · rw [e1, e2]; exact .cons rv (arrP_rep h1 h2 h3 h4 r)
def kwM {α : Type} (mn : List Str) (kws : List (Str × α)) : List (Str × α) := kws.filter fun q => mn.contains q.1
theorem kwM_rep (mn : List Str) : ∀ {kws : List (Str × V)} {kwd : List (Str × D)}, kws.map (·.1) = kwd.map (·.1) → RepVs W S H (kws.map (·.2)) (kwd.map (·.2)) → RepVs W S H ((kwM mn kws).map (·.2)) ((kwM mn kwd).map (·.2))
  | [], [], _, _ => .nil
  | [], _ :: _, h, _ => nomatch h
  | _ :: _, [], h, _ => nomatch h
  | (a, v) :: r, (b, d) :: s, h, hr => by
    simp only [List.map_cons, List.cons.injEq] at h
    obtain ⟨rfl, h⟩ := h
    cases hr with
    | cons r1 r2 =>
      have ih := kwM_rep mn h r2
      unfold kwM at ih ⊢
      rw [List.filter_cons, List.filter_cons]
      cases mn.contains a with
      | true => exact .cons r1 ih
      | false => exact ih
/-- the data in the parameters' order -/
def arrQ (dfl : List D) (kwd : List (Str × D)) (mn : List Str) (pk : List Pick) : List D → List D → List D := fun ds es => arrP pk ds dfl ((kwM mn kwd).map (·.2)) es
abbrev arrD (d : DefN) (mn : List Str) (pk : List Pick) : List D → List D → List D := arrQ d.dfl d.kwd mn pk
variable {d : DefN} {f : Addr} {fd : FuncData} {dvs : List V} {kws : List (Str × V)} {ps ks mn : List Str} {n : Nat} {pk : List Pick}
theorem DefT.arr (T : DefT W d f fd dvs kws) (mn : List Str) (pk : List Pick) : ArrOk W (fun vs zs => arrP pk vs dvs ((kwM mn kws).map (·.2)) zs) (arrD d mn pk) := fun S H vs zs ds es r1 r2 => arrP_rep r1 (T.2.1 S H) (kwM_rep mn T.2.2.1 (T.2.2.2 S H)) r2 pk
end
end EG
namespace EG
open PySem PySem.Spec PyProof.Rows L2
def clsTab (cls : List Str) : List (Str × Nat) := cls.zipIdx
def isiOf (T : List (Tag × Tag × Bool)) : Isi := fun t c => match T with
  | [] => none
  | (a, b, r) :: T => if a = t ∧ b = c then some r else isiOf T t c
def Tag.nm (cls : List Str) : Tag → TagN
  | .ty n => .ty n
  | .cls c => .cls (cls.getD c "")
  | .ex c => .cls (cls.getD c "")
def genFa (cls ecls frees : List Str) (consts : List GC) (isi : List (Tag × Tag × Bool)) (flds : List (Nat × Str)) : List FaN :=
  frees.map (fun x => .old (.free x)) ++ (consts.map (fun c => .cst c.name c.d) ++ ((cls ++ ecls).map (fun x => .old (.glo x)) ++ (cls.map FaN.clsok ++ (isi.map (fun p => .isi (p.1.nm (cls ++ ecls)) (p.2.1.nm (cls ++ ecls)) p.2.2) ++ flds.map (fun p => .old (.noat (cls.getD p.1 "") p.2))))))
theorem isiOf_mem : ∀ {T : List (Tag × Tag × Bool)} {t c : Tag} {b : Bool}, isiOf T t c = some b → (t, c, b) ∈ T
  | [], t, c, b, h => by unfold isiOf at h; cases h
  | (a, a', r) :: T, t, c, b, h => by
    unfold isiOf at h
    split at h
    · rename_i e
      obtain ⟨rfl, rfl⟩ := e
      cases h
      exact List.mem_cons_self ..
    · exact List.mem_cons_of_mem _ (isiOf_mem h)
theorem tagV_nm {K : PySem.W.Frag} {cls : List Str} {lb : Nat → Bool → Arguments → Expr → Scope → Bool} (t : Tag) : tagV (lawW K cls lb) t = (t.nm cls).v K := by cases t <;> rfl
section
variable {K : PySem.W.Frag} {fa : List FaN} {fn : List DefN} {h : Heap} {mg : Str → Option Value} {cls ecls frees : List Str} {consts : List GC} {isi : List (Tag × Tag × Bool)} {flds : List (Nat × Str)} {lb : Nat → Bool → Arguments → Expr → Scope → Bool}
theorem getD_app {n : Nat} (hn : n < cls.length) : (cls ++ ecls).getD n "" = cls.getD n "" := by
  rw [List.getD_eq_getElem?_getD, List.getD_eq_getElem?_getD, List.getElem?_append_left hn]
theorem SaysN.mem (c : SaysN fa fn K) {f : FaN} (h : f ∈ fa) : f.ok K = true := by
  have c1 := (He.ba (show ((fa.all fun f => f.ok K) && fn.all fun d => d.ok K) = true from congrArg (fun z : AlN => z.1) c)).1
  exact List.all_eq_true.mp c1 f h
theorem clsok_of (c : SaysN fa fn K) (sub : ∀ f ∈ genFa cls ecls frees consts isi flds, f ∈ fa) (n : Nat) (hn : n < cls.length) : ClsOk (lawW K (cls ++ ecls) lb) n := by
  refine FaN.clsok_ok (x := cls.getD n "") (by rw [← getD_app (ecls := ecls) hn]; rfl) (c.mem (sub _ ?_))
  refine List.mem_append_right _ (List.mem_append_right _ (List.mem_append_right _ (List.mem_append_left _ (List.mem_map.mpr ⟨_, ?_, rfl⟩))))
  rw [List.getD_eq_getElem?_getD, List.getElem?_eq_getElem hn]
  exact List.getElem_mem hn
theorem m0_of (X : K.In h) (G : h.Ns mainGlobals mg) (c : SaysN fa fn K) (sub : ∀ f ∈ genFa cls ecls frees consts isi flds, f ∈ fa) (hi : (isi.all fun p => match p.1 with | .cls k => decide (k < cls.length) | _ => true) = true := by decide) (hf : (flds.all fun p => decide (p.1 < cls.length)) = true := by decide) :
    M0k { fns := [], consts := consts, clss := clsTab (cls ++ ecls), frees := frees, isi := isiOf isi, flds := flds } (lawW K (cls ++ ecls) lb) mg where
  consts := fun i cc e => FaN.cst_ok (W := lawW K (cls ++ ecls) lb) X G (c.mem (sub _ (List.mem_append_right _ (List.mem_append_left _ (List.mem_map.mpr ⟨cc, List.mem_of_getElem? e, rfl⟩)))))
  clss := fun x n hx => by
    have hx : (x, n) ∈ (cls ++ ecls).zipIdx := hx
    have hg := List.mk_mem_zipIdx_iff_getElem?.mp hx
    have hw : (lawW K (cls ++ ecls) lb).ca n = He.ga K x := by
      show He.ga K ((cls ++ ecls).getD n "") = _
      rw [List.getD_eq_getElem?_getD, hg]; rfl
    rw [hw]
    exact He.glo_ok X G (c.mem (sub _ (List.mem_append_right _ (List.mem_append_right _ (List.mem_append_left _ (List.mem_map.mpr ⟨x, List.mem_of_getElem? hg, rfl⟩))))))
  frees := fun x hx => He.free_ok X G (c.mem (sub _ (List.mem_append_left _ (List.mem_map.mpr ⟨x, hx, rfl⟩))))
  isi := ⟨fun t cc b e => by
      rw [tagV_nm, tagV_nm]
      exact FaN.isi_ok (c.mem (sub _ (List.mem_append_right _ (List.mem_append_right _ (List.mem_append_right _ (List.mem_append_right _ (List.mem_append_left _ (List.mem_map.mpr ⟨_, isiOf_mem e, rfl⟩)))))))),
    fun k cc b e => clsok_of c sub k (by
      have := List.all_eq_true.mp hi _ (isiOf_mem e)
      exact of_decide_eq_true this)⟩
  flds := ⟨fun k f e => by
    have hk : k < cls.length := of_decide_eq_true (List.all_eq_true.mp hf _ e)
    exact ⟨(clsok_of (lb := lb) c sub k hk).cl, by
      have z := He.noat_ok (c.mem (sub _ (List.mem_append_right _ (List.mem_append_right _ (List.mem_append_right _ (List.mem_append_right _ (List.mem_append_right _ (List.mem_map.mpr ⟨_, e, rfl⟩))))))))
      show NoAttr K (He.ga K ((cls ++ ecls).getD k "")) f
      rw [getD_app hk]
      exact z⟩⟩
end
section
variable {W : Wd} {P : Program} {w : World} {mg : Str → Option Value} {base : Heap} {d : DefN} {f : Addr} {fd : FuncData} {dvs : List V} {kws : List (Str × V)} {ps ks mn : List Str} {n np k c : Nat} {F : Fn} {x m : Str} {pk : List Pick}
theorem DefT.nodfl (T : DefT W d f fd dvs kws) (hd : d.dfl = []) : dvs = [] := by
  have := T.2.1 ⟨[], fun _ => none⟩ fun _ => none
  rw [hd] at this
  cases this; rfl
theorem DefT.binds (T : DefT W d f fd dvs kws) (hd : d.dfl = []) (h : ∀ (kV doc pm : Value) (an : Option Addr) (cdv ct : Value) (us : List Value), us.length = ps.length → bindArgs (PySem.W.fnOf d.name d.qual d.params d.body d.scope .none kV doc pm an cdv ct) ⟨us, []⟩ = pure (ps.zip us)) : Binds W.K fd ps [] := by
  have e := T.nodfl hd
  subst e
  exact FunD.bindsN T.1 h
theorem DefT.bindsA (T : DefT W d f fd dvs kws) (hd : d.dfl = []) (h : ∀ (kV doc pm : Value) (an : Option Addr) (cdv ct : Value) (us : List Value), us.length = ps.length → bindArgs (PySem.W.fnOf d.name d.qual d.params d.body d.scope .none kV doc pm an cdv ct) ⟨us, []⟩ = pure (ps.zip us)) (s : Shared) (us : List Value) (hl : us.length = ps.length) : BindsTo s fd ⟨us, []⟩ (ps.zip us) := by
  have e := T.nodfl hd
  subst e
  exact FunD.bindsA T.1 h s us hl
variable (T : DefT W d f fd dvs kws) (hf : FnOk P w W.K mg base (L2N.CX P w) k f fd ps (spF W n F))
include T hf
theorem use_fn (gm : mg x = some (.ref f)) (hb : Binds W.K fd ps []) : FKeep W P w mg base ⟨x, n, F, k, []⟩ := ⟨f, fd, ps, [], [], hf, gm, T.1.kp, hb, .nil, fun _ _ => .nil⟩
omit T hf
/-! any call -/
variable {FUx : FU} {fz : Bool}
end
end EG
namespace EG
open PySem PySem.Spec PyProof.Rows L2
/-! the closures of a text: each with what its body sees, its own names, its body -/
structure LamI where
  Γ : Gam
  N : List Str
  pn : List Str
  e : E
def lamSc (pn : List Str) (sc : Scope) : Bool := decide (sc.kind = .function) && !sc.isCoroutine && !sc.isGenerator && (sc.names.all fun y => decide (y.2 ≠ .cell)) && (sc.names.all fun y => decide (y.2 ≠ .local) || pn.contains y.1) && pn.all fun y => decide (sc.names.lookup y = some .local)
def lamPar (pn : List Str) (b : Bool) (a : Arguments) : Bool := match b with
  | false => pn.isEmpty && par0 a
  | true => (match pn with
    | [nm] => par1 nm a
    | _ => false)
def lamOkB (l : LamI) (b : Bool) (params : Arguments) (body : Expr) (scope : Scope) : Bool := lamPar l.pn b params && lamSc l.pn scope && decide l.N.Nodup && decide (l.Γ.mkr = none) && chk l.Γ l.N scope l.e body
def lamBs (ls : List LamI) (n : Nat) (b : Bool) (params : Arguments) (body : Expr) (scope : Scope) : Bool := match ls[n]? with
  | some l => lamOkB l b params body scope
  | none => false
noncomputable def lamLF (ls : List LamI) (n : Nat) (ds : List (Str × D)) : EM D := match ls[n]? with
  | some l => lamF l.N l.pn (ev l.Γ l.e).e ds
  | none => failE
section
variable {W : Wd} {P : Program} {w : World} {mg : Str → Option Value} {base : Heap} {k : Nat}
theorem lamSc_of {pn : List Str} {sc : Scope} (h : lamSc pn sc = true) : sc.kind = .function ∧ sc.isCoroutine = false ∧ sc.isGenerator = false ∧ (∀ y ∈ sc.names, y.2 ≠ .cell) ∧ (∀ y, sc.names.lookup y = some .local → y ∈ pn) ∧ ∀ y ∈ pn, sc.names.lookup y = some .local := by
  unfold lamSc at h
  simp only [Bool.and_eq_true, Bool.not_eq_true', decide_eq_true_eq] at h
  obtain ⟨⟨⟨⟨⟨h1, h2⟩, h3⟩, h4⟩, h5⟩, h6⟩ := h
  refine ⟨h1, h2, h3, fun y hy => of_decide_eq_true (List.all_eq_true.mp h4 y hy), fun y hy => ?_, fun y hy => of_decide_eq_true (List.all_eq_true.mp h6 y hy)⟩
  have z := List.all_eq_true.mp h5 _ (PySem.mem_of_lookup hy)
  rw [Bool.or_eq_true] at z
  rcases z with z | z
  · exact absurd rfl (of_decide_eq_true z)
  · simpa using z
theorem xok_lam {Γ : Gam} (hM : MOk Γ W P w mg base k) (hm : Γ.mkr = none) {N : List Str} (nd : N.Nodup) {scope : Scope} (hc : ∀ y ∈ scope.names, y.2 ≠ .cell) {q : Str} {f c' : Addr} {A : Around} {outer : List PySem.Env} {s : Shared} {H : Hp} {clos : List (Str × Addr)} {E : XK} (hr : Room k (A.deeper (lamE q scope s.heap.objs.size f c' clos))) :
    XOk Γ N scope W (fun c d _ H' => E c d H') k (lamX P w W.K mg base N q scope f c' A outer s H clos E) where
  hN := rfl
  nd := nd
  hlk := Scopes.refl
  hK := rfl
  calm := rfl
  tk := takes_weak (L2.takes_of rfl rfl rfl rfl)
  tk2 := fun _ => L2.takes_of rfl rfl rfl rfl
  fnsH := fun i g e => ⟨⟨(hM.fnsH i g e).1⟩, (hM.fnsH i g e).2⟩
  room := hr
  fn := fun x e => absurd rfl (hc _ (PySem.mem_of_lookup e))
  fns := fun i g e => ⟨⟨(hM.fns i g e).1⟩, (hM.fns i g e).2⟩
  consts := fun i c e => ⟨hM.consts i c e⟩
  clss := hM.clss
  frees := hM.frees
  isi := hM.isi
  flds := hM.flds
  meths := fun i g e => ⟨⟨(hM.meths i g e).1⟩, (hM.meths i g e).2⟩
  props := fun i g e => ⟨⟨(hM.props i g e).1⟩, (hM.props i g e).2⟩
  makes := fun i g e => ⟨⟨(hM.makes i g e).1⟩, (hM.makes i g e).2⟩
  eqs := fun i g e => ⟨⟨(hM.eqs i g e).1⟩, (hM.eqs i g e).2⟩
  kcs := fun i g e => ⟨⟨(hM.kcs i g e).1⟩, (hM.kcs i g e).2⟩
  kms := fun i g e => ⟨⟨(hM.kms i g e).1⟩, (hM.kms i g e).2⟩
  kss := fun i g e => ⟨⟨(hM.kss i g e).1⟩, (hM.kss i g e).2⟩
  o1s := fun i g e => ⟨⟨(hM.o1s i g e).1⟩, (hM.o1s i g e).2⟩
  us := hM.us
  b2s := hM.b2s
  cvs := hM.cvs
  wds := hM.wds
  exs := hM.exs
  xt := hM.xt
  hfs := hM.hfs
  ctch := hM.ctch
  lam := hM.lam
  lamB := hM.lamB
  noT := hM.noT
  mkr := fun e => by rw [hm] at e; cases e
theorem lamOk_of {ls : List LamI} (hlb : W.lamB = lamBs ls) (hM : ∀ l ∈ ls, MOk l.Γ W P w mg base k) : LamOk W P w mg base (k + 1) (lamLF ls) := by
  intro A outer s H f n cl ds S μ res Q E hr e0 g rv h0 hf hk
  unfold lamLF at hf
  cases q : ls[n]? with
  | none => rw [q] at hf; cases hf
  | some l =>
    rw [q] at hf
    have hml := hM l (List.mem_of_getElem? q)
    have inv : ∀ {b params body scope}, W.lamB n b params body scope = true → lamOkB l b params body scope = true := fun {b params body scope} h => by
      rw [hlb] at h
      unfold lamBs at h
      rw [q] at h
      exact h
    refine lam_ok (pn := l.pn) (N := l.N) (fe := (ev l.Γ l.e).e) ⟨fun b params body scope h => ?_, fun b params body scope h => ?_, fun b params body scope h q f c' A outer s H clos E hr e0 => ?_⟩ hr e0 g rv h0 hf hk
    · have h := inv h
      unfold lamOkB at h
      simp only [Bool.and_eq_true] at h
      have h1 := h.1.1.1.1
      unfold lamPar at h1
      cases b with
      | false =>
        rw [Bool.and_eq_true] at h1
        exact .inl ⟨rfl, by simpa using h1.1, h1.2⟩
      | true =>
        refine .inr ⟨rfl, ?_⟩
        simp only at h1
        split at h1
        · rename_i nm e
          exact ⟨nm, e, h1⟩
        · cases h1
    · have h := inv h
      unfold lamOkB at h
      simp only [Bool.and_eq_true] at h
      exact lamSc_of h.1.1.1.2
    · have h := inv h
      unfold lamOkB at h
      simp only [Bool.and_eq_true, decide_eq_true_eq] at h
      obtain ⟨⟨⟨⟨h1, h2⟩, h3⟩, h4⟩, h5⟩ := h
      exact (snd l.e body scope _ _ h5 (xok_lam hml h4 h3 (lamSc_of h2).2.2.2.1 hr)).pe
/-! a def that makes closures: what it does for whatever cells -/
theorem MOk.maker {Γ : Gam} (h : MOk Γ W P w mg base k) {m : Option (List (Str × NameKind))} {cl : List (Str × Addr)} {c : Caps} {t : Nat} {p : Addr} {q : Str} {lb : Nat → Bool → Arguments → Expr → Scope → Bool} (hl : ∀ n b p e z, lb n b p e z = true → W.lamB n b p e z = true) :
    MOk { Γ with mkr := m, cl := cl, caps := c, tabI := t, tabP := p, tabQ := q, lamB := lb } W P w mg base k :=
  ⟨h.fns, h.fnsH, h.consts, h.clss, h.frees, h.isi, h.flds, h.meths, h.props, h.makes, h.eqs, h.kcs, h.kms, h.kss, h.o1s, h.us, h.b2s, h.cvs, h.wds, h.exs, h.xt, h.hfs, h.ctch, h.lam, hl, h.noT⟩
end
/-! a def that reads an exception where it is handled -/
section
variable {W : Wd} {Y : Cx} {T : Xtab} {N : List Str} {sc : Scope} {Wx : WX}
end
section
variable {W : Wd} {P : Program} {w : World} {mg : Str → Option Value} {base : Heap} {k : Nat}
end
end EG
namespace EG
open PySem PySem.Spec PyProof.Rows L2
/-! the head with own exceptions and a maker of closures -/
structure ExN where
  x : Str
  base : Nat
  fn : ExFn
def bsB : Nat → String
  | 0 => "ValueError"
  | 1 => "LookupError"
  | _ => "IndexError"
def bsNew : Nat → String
  | 0 => "ValueError.__new__"
  | 1 => "LookupError.__new__"
  | _ => "IndexError.__new__"
def bsInit : Nat → String
  | 0 => "ValueError.__init__"
  | 1 => "LookupError.__init__"
  | _ => "IndexError.__init__"
def bsBm : Nat → List Value
  | 0 => [.type "ValueError", .type "Exception", .type "BaseException", .type "object"]
  | 1 => [.type "LookupError", .type "Exception", .type "BaseException", .type "object"]
  | _ => [.type "IndexError", .type "LookupError", .type "Exception", .type "BaseException", .type "object"]
theorem exb_n : ∀ n : Nat, ExB (bsB n) (bsNew n) (bsInit n) (bsBm n)
  | 0 => exb_V
  | 1 => exb_L
  | _ + 2 => exb_I
/-- what is read off the text of such a start -/
structure ExS (D : ExFn) : Prop where
  bind : ∀ (name : Str) (kV doc pm : Value) (an : Option Addr) (cdv ct : Value) (cl : List (Str × Addr)) (us : List Value), us.length = D.ps.length → bindArgs (PySem.W.fnX name D.qual D.params D.body D.scope cl .none kV doc pm an cdv ct) ⟨us, []⟩ = pure (D.ps.zip us)
  bindK : ∀ (p : Str × Str), D.fld = some p → ∀ (x : Addr) (u : Value) (name : Str) (kV doc pm : Value) (an : Option Addr) (cdv ct : Value) (cl : List (Str × Addr)), bindArgs (PySem.W.fnX name D.qual D.params D.body D.scope cl .none kV doc pm an cdv ct) ⟨[.ref x], [(p.2, u)]⟩ = pure (D.ps.zip [Value.ref x, u])
  ar : ∃ ar, (D.params.posonlyargs ++ D.params.args).head? = some ar ∧ ar.arg = D.self
  shape : D.Shape
  nd : D.ps.Nodup
  k0 : ∀ y ∈ D.scope.names, y.2 ≠ .cell
  k1 : D.scope.names.lookup ("super" : Str) = some .globalImplicit
  k2 : D.scope.names.lookup ("__class__" : Str) = some .free
  k3 : ∀ x ∈ D.ps, D.scope.names.lookup x = some .local
  k4 : D.scope.kind = .function
  k5 : D.scope.isCoroutine = false
  k6 : D.scope.isGenerator = false
  k7 : ∀ x ∈ D.ps, (x == ("__debug__" : Str)) = false
abbrev ExW : Type := Option (Str × Arguments × FuncBody × Scope × Addr × Addr)
def exI (K : PySem.W.Frag) (e : ExN) : Addr := He.ma K (He.ga K e.x) "__init__"
def exW (K : PySem.W.Frag) (e : ExN) : ExW := match K.lookup (exI K e) with
  | some ⟨_, _, .func fd, _⟩ => some (fd.qualname, fd.params, fd.body, fd.scope, fd.globals, fd.builtins)
  | _ => none
def ExN.val (e : ExN) : ExW := some (e.fn.qual, e.fn.params, .stmts e.fn.body, e.fn.scope, mainGlobals, builtinsNs)
def exFnB (K : PySem.W.Frag) (file : Str) (C : Addr) (q : Str) (fd : FuncData) : Bool := match fd.closure, fd.defaults, fd.code with
  | [(n, cc)], .none, .ref cda => decide (n = "__class__") && (PySem.W.codeIn K (.ref cda) q && ((match K.lookup cda with
    | some ⟨_, _, .fields vs, _⟩ => (match (vs[2]? : Option Value) with
      | some (.str f _) => file == f
      | _ => false)
    | _ => false) && (match K.lookup cc with
    | some ⟨_, _, .cell (some (.ref C')), _⟩ => decide (C' = C)
    | _ => false)))
  | _, _, _ => false
def exOk (K : PySem.W.Frag) (file : Str) (e : ExN) : Bool := PySem.W.excInitIn K (He.ga K e.x) (bsBm e.base) (bsNew e.base) && (PySem.W.excOver K (He.ga K e.x) (bsBm e.base) && (PySem.W.hasDictIn K (He.ga K e.x) && (decide (PySem.W.findIn K (.ref (He.ga K e.x)) "__setattr__" = some (some (.builtin "object.__setattr__"))) &&
  (decide (PySem.W.takerIn K (He.ga K e.x) "code" = some none) && ((match e.fn.fld with
    | none => true
    | some p => decide (PySem.W.takerIn K (He.ga K e.x) p.1 = some none)) && (decide (PySem.W.findIn K (.ref (He.ga K e.x)) "__init__" = some (some (.ref (exI K e)))) && (decide (PySem.W.typeIn K (.ref (exI K e)) = some (.type "function")) &&
  (decide (PySem.W.ks_superIn K (He.ga K e.x) (He.ga K e.x) "__init__" = some (some (.builtin (bsInit e.base)))) && (decide (PySem.W.subIn K (.ref (He.ga K e.x)) (.type (bsB e.base)) = some true) && (decide (PySem.W.mroIn K (He.ga K e.x) (.ref (He.ga K e.x)) = some true) &&
  (decide (PySem.W.nsIn K cStatics "thirdparty.any" = some none) && (PySem.W.keepIn K (.ref (He.ga K e.x)) && (decide (PySem.W.subIn K (.ref (He.ga K e.x)) (.type "BaseException") = some true) && (decide (PySem.W.typeIn K (.ref (He.ga K e.x)) = some (.type "type")) &&
  (match K.lookup (exI K e) with
    | some ⟨_, _, .func fd, _⟩ => exFnB K file (He.ga K e.x) e.fn.qual fd
    | _ => false)))))))))))))))
theorem exFnB_of {K : PySem.W.Frag} {file : Str} {C : Addr} {q : Str} {fd : FuncData} (h : exFnB K file C q fd = true) : ∃ (cc cda : Addr) (cl : Value) (cld : Option Addr) (csl : Array (Option Value)) (ccl : Value) (cdd : Option Addr) (ccs : Array (Option Value)) (vs : Array Value) (f : Str) (tf : Tok),
    fd.closure = [(("__class__" : Str), cc)] ∧ fd.defaults = .none ∧ fd.code = .ref cda ∧ PySem.W.codeIn K (.ref cda) q = true ∧ K.lookup cda = some ⟨ccl, cdd, .fields vs, ccs⟩ ∧ vs[2]? = some (.str f tf) ∧ (file == f) = true ∧ K.lookup cc = some ⟨cl, cld, .cell (some (.ref C)), csl⟩ := by
  unfold exFnB at h
  split at h
  · rename_i n cc cda e1 e2 e3
    rw [Bool.and_eq_true, Bool.and_eq_true, Bool.and_eq_true, decide_eq_true_eq] at h
    obtain ⟨rfl, h2, h3, h4⟩ := h
    split at h3
    · rename_i ccl cdd vs ccs q1
      split at h3
      · rename_i f tf q2
        split at h4
        · rename_i cl cld C' csl q3
          have := of_decide_eq_true h4
          subst this
          exact ⟨cc, cda, cl, cld, csl, ccl, cdd, ccs, vs, f, tf, e1, e2, e3, h2, q1, q2, h3, q3⟩
        · cases h4
      · cases h3
    · cases h3
  · cases h
theorem exI_of {K : PySem.W.Frag} {P : Program} {file : Str} {e : ExN} (hw : exW K e = e.val) (h : exOk K file e = true) (S : ExS e.fn) (hfile : (P.main.file : Str) = file) (top : (P.main.scope.names.lookup ("super" : Str)).isSome = false) : ExI K P (bsB e.base) (bsNew e.base) (bsInit e.base) (bsBm e.base) (He.ga K e.x) (exI K e) e.fn := by
  unfold exOk at h
  simp only [Bool.and_eq_true, decide_eq_true_eq] at h
  obtain ⟨h1, h2, h3, h4, h5, h6, h7, h8, h9, h10, h11, h12, h13, h14, h15, h16⟩ := h
  have hf : ∃ (oc : Value) (od : Option Addr) (osl : Array (Option Value)) (name : Str) (kV doc pm : Value) (an : Option Addr) (cda : Addr) (ct : Value) (cc : Addr) (cl : Value) (cld : Option Addr) (csl : Array (Option Value)) (ccl : Value) (cdd : Option Addr) (ccs : Array (Option Value)) (vs : Array Value) (f : Str) (tf : Tok),
    K.lookup (exI K e) = some ⟨oc, od, .func (PySem.W.fnX name e.fn.qual e.fn.params e.fn.body e.fn.scope [("__class__", cc)] .none kV doc pm an (.ref cda) ct), osl⟩ ∧ PySem.W.codeIn K (.ref cda) e.fn.qual = true ∧ K.lookup cda = some ⟨ccl, cdd, .fields vs, ccs⟩ ∧ vs[2]? = some (.str f tf) ∧ ((P.main.file : Str) == f) = true ∧ K.lookup cc = some ⟨cl, cld, .cell (some (.ref (He.ga K e.x))), csl⟩ := by
    unfold exW at hw
    cases q : K.lookup (exI K e) with
    | none => rw [q] at h16; cases h16
    | some o =>
      obtain ⟨oc, od, dt, osl⟩ := o
      rw [q] at h16 hw
      cases dt with
      | func fd =>
        obtain ⟨cc, cda, cl, cld, csl, ccl, cdd, ccs, vs, f, tf, a1, a2, a3, a4, a5, a6, a7, a8⟩ := exFnB_of h16
        obtain ⟨n1, n2, n3, n4, n5, n6, n7, n8, n9, n10, n11, n12, n13, n14, n15⟩ := fd
        have hw : (some (n2, n3, n4, n5, n6, n15) : ExW) = some (e.fn.qual, e.fn.params, .stmts e.fn.body, e.fn.scope, mainGlobals, builtinsNs) := hw
        simp only [Option.some.injEq, Prod.mk.injEq] at hw
        obtain ⟨b1, b2, b3, b4, b5, b6⟩ := hw
        have a1 : n7 = _ := a1
        have a2 : n8 = _ := a2
        have a3 : n13 = _ := a3
        subst b1 b2 b3 b4 b5 b6 a1 a2 a3
        exact ⟨oc, od, osl, n1, n9, n10, n11, n12, cda, n14, cc, cl, cld, csl, ccl, cdd, ccs, vs, f, tf, rfl, a4, a5, a6, by rw [hfile]; exact a7, a8⟩
      | _ => cases h16
  exact {
    init := h1, over := h2, hd := h3, sa := h4, tc := h5
    tf := fun p hp => by rw [hp] at h6; exact of_decide_eq_true h6
    iC := h7, tI := h8, sup := h9, sB := h10, mr := h11, op := h12, kp := h13, exC := h14, tyC := h15
    fn := hf
    bind := S.bind, bindK := S.bindK, ar := S.ar, shape := S.shape, nd := S.nd, k0 := S.k0, k1 := S.k1, k2 := S.k2, k3 := S.k3, k4 := S.k4, k5 := S.k5, k6 := S.k6, k7 := S.k7, top := top }
/-! a maker's code object and its table -/
def cdN (K : PySem.W.Frag) (d : DefN) : Addr := match K.lookup (dAd K d.kind d.x d.m) with
  | some ⟨_, _, .func fd, _⟩ => (match fd.code with
    | .ref c => c
    | _ => 0)
  | _ => 0
def tbN (K : PySem.W.Frag) (d : DefN) : Addr := match K.lookup (cdN K d) with
  | some ⟨_, _, .fields vs, _⟩ => (match (vs[11]? : Option Value) with
    | some (.ref P) => P
    | _ => 0)
  | _ => 0
def isCd (K : PySem.W.Frag) (d : DefN) : Bool := match K.lookup (dAd K d.kind d.x d.m) with
  | some ⟨_, _, .func fd, _⟩ => (match fd.code with
    | .ref _ => true
    | _ => false)
  | _ => false
theorem DefN.code {W : Wd} {d : DefN} {fd : FuncData} {dvs : List V} {kws : List (Str × V)} (T : DefT W d (dAd W.K d.kind d.x d.m) fd dvs kws) (h : isCd W.K d = true) : fd.code = .ref (cdN W.K d) := by
  obtain ⟨oc, od, dV, kV, doc, pm, an, cdv, ct, osl, rfl, lk, hcd, _, _⟩ := T.1.ex
  unfold isCd at h
  unfold cdN
  rw [lk] at h ⊢
  cases cdv <;> first
    | rfl
    | exact nomatch h
/-- what else the head tells: exceptions, what they are, what is read of them, the makers -/
structure HX where
  file : Str := ""
  es : List ExN := []
  cls : List Str := []
  ct : List (Nat × List Nat) := []
  xt : Xtab := []
  tf : List DefN := []
def HX.c (X : HX) (K : PySem.W.Frag) (n : Nat) : Addr := He.ga K (X.cls.getD n "")
def HX.ok (X : HX) (K : PySem.W.Frag) : Bool := X.es.all (exOk K X.file) && (X.ct.all (fun p => decide (PySem.W.exmAny K (.ref (X.c K p.1)) (p.2.map fun h => .ref (X.c K h)) = some true)) && X.xt.all fun p => xfB K (X.c K p.1) && xcB K (X.c K p.1) && decide (PySem.W.findIn K (.ref (X.c K p.1)) p.2 = some none))
def HX.tabs (X : HX) (g : Addr → Option Obj) (K : PySem.W.Frag) : Bool := decide (X.tf.map (tbN K)).Nodup && X.tf.all fun d => isCd K d && (PySem.W.codeHdIn K (cdN K d) (tbN K d) && (match g (tbN K d) with
  | some o => He.emptyTab o
  | none => false))
structure SaysM (fa : List FaN) (fn : List DefN) (X : HX) (h : Heap) (K : PySem.W.Frag) : Prop where
  t : SaysN fa fn K
  ok : X.ok K = true
  ex : X.es.map (exW K) = X.es.map ExN.val
  cd : ∀ d ∈ X.tf, isCd K d = true
  hd : ∀ d ∈ X.tf, PySem.W.codeHdIn K (cdN K d) (tbN K d) = true
  out : ∀ d ∈ X.tf, K.lookup (tbN K d) = none
  empty : ∀ d ∈ X.tf, h.get? (tbN K d) = some { cls := .none, data := .fields #[] }
  ndT : (X.tf.map (tbN K)).Nodup
abbrev AlM : Type := AlN × Bool × List ExW
def obsM (n : Nat) (fa : List FaN) (fn : List DefN) (X : HX) (g : Addr → Option Obj) : AlM := (obsK fa fn (He.frT g (asN g n)), (X.ok (He.frT g (asN g n)) && X.tabs g (He.frT g (asN g n)), X.es.map (exW (He.frT g (asN g n)))))
def valM (fn : List DefN) (X : HX) : AlM := (valN fn, true, X.es.map ExN.val)
theorem saysM_of {n : Nat} {fa : List FaN} {fn : List DefN} {X : HX} {h : Heap} (e : obsM n fa fn X h.get? = valM fn X) : SaysM fa fn X h (He.frT h.get? (asN h.get? n)) := by
  have e1 : obsK fa fn (He.frT h.get? (asN h.get? n)) = valN fn := congrArg (fun z : AlM => z.1) e
  have e2 : (X.ok (He.frT h.get? (asN h.get? n)) && X.tabs h.get? (He.frT h.get? (asN h.get? n))) = true := congrArg (fun z : AlM => z.2.1) e
  have e3 : X.es.map (exW (He.frT h.get? (asN h.get? n))) = X.es.map ExN.val := congrArg (fun z : AlM => z.2.2) e
  obtain ⟨h1, h2⟩ := He.ba e2
  obtain ⟨hnd, h2⟩ := He.ba h2
  have key : ∀ d ∈ X.tf, isCd (He.frT h.get? (asN h.get? n)) d = true ∧ PySem.W.codeHdIn (He.frT h.get? (asN h.get? n)) (cdN (He.frT h.get? (asN h.get? n)) d) (tbN (He.frT h.get? (asN h.get? n)) d) = true ∧ ∃ o, h.get? (tbN (He.frT h.get? (asN h.get? n)) d) = some o ∧ He.emptyTab o = true := fun d hd => by
    obtain ⟨h3, h4⟩ := He.ba (List.all_eq_true.mp h2 d hd)
    obtain ⟨h4, h5⟩ := He.ba h4
    refine ⟨h3, h4, ?_⟩
    cases q : h.get? (tbN (He.frT h.get? (asN h.get? n)) d) with
    | none => rw [q] at h5; cases h5
    | some o => rw [q] at h5; exact ⟨o, rfl, h5⟩
  exact ⟨e1, h1, e3, fun d hd => (key d hd).1, fun d hd => (key d hd).2.1, fun d hd => by
    obtain ⟨_, _, o, q, z⟩ := key d hd
    exact He.frT_none q z, fun d hd => by
    obtain ⟨_, _, o, q, z⟩ := key d hd
    rw [q, He.emptyTab_eq z], of_decide_eq_true hnd⟩
def hookM (n : Nat) (fa : List FaN) (fn : List DefN) (X : HX) : PySem.W.Hook where
  α := AlM
  obs := fun s => obsM n fa fn X s.heap.get?
  val := fun _ => valM fn X
  says := fun _ h => ∃ K : PySem.W.Frag, K.In h ∧ SaysM fa fn X h K
  of := fun _ _ e => ⟨_, He.frT_in, saysM_of e⟩
  keeps := fun _ _ _ ⟨K, hK, c⟩ k => ⟨K, PySem.W.Frag.In.keeps hK k, ⟨c.t, c.ok, c.ex, c.cd, c.hd, c.out, fun p hp => k _ _ (c.empty p hp), c.ndT⟩⟩
theorem obsM_eq {n : Nat} {fa : List FaN} {fn : List DefN} {X : HX} {g : Addr → Option Obj} {s : Shared} (h : ∀ a, g a = s.heap.get? a) : obsM n fa fn X g = (hookM n fa fn X).obs s := by
  have e : g = s.heap.get? := funext h
  rw [e] <;> rfl
section
variable {fa : List FaN} {fn : List DefN} {X : HX} {h : Heap} {K : PySem.W.Frag} {lb : Nat → Bool → Arguments → Expr → Scope → Bool}
theorem SaysM.exs (c : SaysM fa fn X h K) {e : ExN} (he : e ∈ X.es) : exW K e = e.val ∧ exOk K X.file e = true := by
  obtain ⟨i, hi, ei⟩ := List.mem_iff_getElem.mp he
  have h1 : (X.es.map (exW K))[i]? = (X.es.map ExN.val)[i]? := by rw [c.ex]
  rw [List.getElem?_map, List.getElem?_map, List.getElem?_eq_getElem hi, ei] at h1
  exact ⟨Option.some.inj h1, List.all_eq_true.mp (He.ba c.ok).1 e he⟩
theorem SaysM.gx (c : SaysM fa fn X h K) {P : Program} {mg : Str → Option Value} {g : GX} {e : ExN} (he : e ∈ X.es) (S : ExS e.fn) (hfile : (P.main.file : Str) = X.file) (top : (P.main.scope.names.lookup ("super" : Str)).isSome = false) (hn : e.x = X.cls.getD g.cls "") (hm : mg g.name = some (.ref ((lawW K X.cls lb).ca g.cls)))
    (h1 : e.fn.code = g.code) (h2 : e.fn.fld.map (·.1) = g.fld) (h3 : g.code.length ≤ big) (hs : mg "super" = none) (hpp : ∀ p, e.fn.fld = some p → p.2 = p.1) : GXOk (lawW K X.cls lb) P mg g := by
  obtain ⟨a, b⟩ := c.exs he
  have z := exI_of a b S hfile top
  rw [show He.ga K e.x = (lawW K X.cls lb).ca g.cls by rw [hn]; rfl] at z
  exact ⟨_, _, _, _, _, e.fn, exb_n e.base, z, hm, h1, h2, h3, hs, hpp⟩
theorem SaysM.ctch (c : SaysM fa fn X h K) : ∀ k hs, (k, hs) ∈ X.ct → PySem.W.exmAny (lawW K X.cls lb).K (.ref ((lawW K X.cls lb).ca k)) (hs.map fun h => .ref ((lawW K X.cls lb).ca h)) = some true := fun k hs hm =>
  of_decide_eq_true (List.all_eq_true.mp (He.ba (He.ba c.ok).2).1 _ hm)
theorem SaysM.xtab (c : SaysM fa fn X h K) : XtOk (lawW K X.cls lb) X.xt := fun k f hm => by
  obtain ⟨a, b⟩ := He.ba (List.all_eq_true.mp (He.ba (He.ba c.ok).2).2 _ hm)
  obtain ⟨a, a2⟩ := He.ba a
  exact ⟨xfB_ok a, of_decide_eq_true b, xcB_ok (xfB_ok a) a2⟩
end
/-- the module's part with exceptions -/
theorem M0k.ext {Γ Γ' : Gam} {W : Wd} {mg : Str → Option Value} (h : M0k Γ W mg) (e1 : Γ'.consts = Γ.consts) (e2 : Γ'.clss = Γ.clss) (e3 : Γ'.frees = Γ.frees) (e4 : Γ'.isi = Γ.isi) (e5 : Γ'.flds = Γ.flds) (x1 : XtOk W Γ'.xt)
    (x2 : ∀ c hs, (c, hs) ∈ Γ'.ctch → PySem.W.exmAny W.K (.ref (W.ca c)) (hs.map fun h => .ref (W.ca h)) = some true) (x3 : ∀ n b p e z, Γ'.lamB n b p e z = true → W.lamB n b p e z = true) (x4 : Γ'.noT = true → noTup W.K = true := by exact fun h => absurd h Bool.false_ne_true) : M0k Γ' W mg :=
  ⟨by rw [e1]; exact h.consts, by rw [e2]; exact h.clss, by rw [e3]; exact h.frees, by rw [e4]; exact h.isi, by rw [e5]; exact h.flds, x1, x2, x3, x4⟩
end EG
namespace EG
open PySem L2

/-! what a run must do: weakest wishes -/
abbrev PX := Nat → List (Str × D) → Mu → Prop
/-- the simplifier does not walk into what another argument's type names -/
structure Tk {α : Sort u} (a : α) : Type where
theorem eqp {α : Sort u} {a b : α} (h : a = b) : a = b := h
def Wp {α : Type} (m : EM α) (μ : Mu) (Q : α → Mu → Prop) (E : PX) (_u : Tk (Q, E) := ⟨⟩) : Prop := match m μ with
  | some (.ok a, μ') => Q a μ'
  | some (.exc c fs, μ') => E c fs μ'
  | none => False
def Wr (F : SM) (env : Env) (μ : Mu) (K : SO → Mu → Prop) (_u : Tk K := ⟨⟩) : Prop := match F env μ with
  | some (o, μ') => K o μ'
  | none => False
def Wf (F : Fn) (ds : List D) (μ : Mu) (Q : D → Mu → Prop) (E : PX) (_u : Tk (F, Q, E) := ⟨⟩) : Prop := Wp (F ds) μ Q E
def Br (b : Bool) (p q : Prop) (_u : Tk (p ∧ q) := ⟨⟩) : Prop := match b with
  | true => p
  | false => q
def Op {α : Type} (o : Option α) (p : α → Prop) (_u : Tk p := ⟨⟩) : Prop := ∃ a, o = some a ∧ p a
section
variable {α β : Type} {μ : Mu} {Q : α → Mu → Prop} {E : PX} {env : Env} {K : SO → Mu → Prop} {P : D → Mu → Prop}
theorem wp_ext {m : EM α} {Q' : α → Mu → Prop} (h : ∀ a μ', Q a μ' = Q' a μ') : Wp m μ Q E = Wp m μ Q' E := by
  have : Q = Q' := funext fun a => funext fun μ' => h a μ'
  subst this; rfl
theorem op_ext {o : Option α} {p p' : α → Prop} (h : ∀ a, p a = p' a) : Op o p = Op o p' := by
  have : p = p' := funext h
  subst this; rfl
theorem br_true {p q : Prop} : Br true p q = p := eqp rfl
theorem br_false {p q : Prop} : Br false p q = q := eqp rfl
theorem br_cases {b : Bool} {p q : Prop} (h1 : b = true → p) (h2 : b = false → q) : Br b p q := by
  cases b with
  | true => exact h1 rfl
  | false => exact h2 rfl
theorem op_some {a : α} {p : α → Prop} : Op (some a) p = p a := propext ⟨fun ⟨_, e, h⟩ => by cases e; exact h, fun h => ⟨a, rfl, h⟩⟩
theorem wp_bind {m : EM α} {f : α → EM β} {Q : β → Mu → Prop} : Wp (bindE m f) μ Q E = Wp m μ (fun a μ' => Wp (f a) μ' Q E) E := by
  unfold Wp bindE
  cases m μ with
  | none => rfl
  | some r => obtain ⟨o, μ'⟩ := r; cases o <;> rfl
theorem wp_pure {a : α} : Wp (pureE a) μ Q E = Q a μ := eqp rfl
theorem wp_fail : Wp (failE : EM α) μ Q E = False := eqp rfl
theorem wp_opt {o : Option α} : Wp (optE o) μ Q E = Op o fun a => Q a μ := by
  unfold Wp optE
  cases o with
  | none => exact propext ⟨fun h => False.elim h, fun ⟨_, h, _⟩ => (nomatch h)⟩
  | some a => rw [op_some]
theorem wp_guard {b : Bool} {m : EM α} : Wp (guardE b m) μ Q E = (b = true ∧ Wp m μ Q E) := by
  cases b <;> simp [Wp, guardE]
theorem wp_noX {m : EM α} : Wp (noX m) μ Q E = Wp m μ Q fun _ _ _ => False := by
  unfold Wp noX
  cases m μ with
  | none => rfl
  | some r => obtain ⟨o, μ'⟩ := r; cases o <;> rfl
theorem wp_v {i : Nat} {Q : D → Mu → Prop} : Wp (fV i env) μ Q E = Op (valS env[i]?) fun d => Q d μ := wp_opt
theorem wp_vB {i : Nat} {Q : D → Mu → Prop} : Wp (fVB i env) μ Q E = Op (valB env[i]?) fun d => Q d μ := wp_opt
theorem wp_c {d : D} {Q : D → Mu → Prop} : Wp (fC d env) μ Q E = Q d μ := eqp rfl
theorem wp_op2 {op : D → D → EM D} {f g : Env → EM D} {Q : D → Mu → Prop} : Wp (fOp2 op f g env) μ Q E = Wp (f env) μ (fun d μ1 => Wp (g env) μ1 (fun e μ2 => Wp (op d e) μ2 Q E) E) E := by
  unfold fOp2; rw [wp_bind]; refine wp_ext fun d μ1 => ?_; rw [wp_bind]
theorem wp_op2L {op : D → D → EM (List D)} {f g : Env → EM D} {Q : List D → Mu → Prop} : Wp (fOp2L op f g env) μ Q E = Wp (f env) μ (fun d μ1 => Wp (g env) μ1 (fun e μ2 => Wp (op d e) μ2 Q E) E) E := by
  unfold fOp2L; rw [wp_bind]; refine wp_ext fun d μ1 => ?_; rw [wp_bind]
theorem wp_t {f : Env → EM D} {Q : Bool → Mu → Prop} : Wp (fT f env) μ Q E = Wp (f env) μ (fun d μ1 => Op (asB d) fun b => Q b μ1) E := by
  unfold fT; rw [wp_bind]; refine wp_ext fun d μ1 => ?_; rw [wp_opt]
theorem wp_tru {f : Env → EM D} {Q : Bool → Mu → Prop} : Wp (fTru f env) μ Q E = Wp (f env) μ (fun d μ1 => Op (truD d) fun b => Q b μ1) E := by
  unfold fTru; rw [wp_bind]; refine wp_ext fun d μ1 => ?_; rw [wp_opt]
theorem wp_chain {op op' : D → D → EM D} {f g k : Env → EM D} {Q : D → Mu → Prop} : Wp (fChain op op' f g k env) μ Q E = Wp (f env) μ (fun d μ1 => Wp (g env) μ1 (fun e μ2 => Wp (op d e) μ2 (fun z μ3 => Op (asB z) fun b => Br b (Wp (k env) μ3 (fun z' μ4 => Wp (op' e z') μ4 Q E) E) (Q (.bl false) μ3)) E) E) E := by
  unfold fChain; rw [wp_bind]; refine wp_ext fun d μ1 => ?_; rw [wp_bind]; refine wp_ext fun e μ2 => ?_; rw [wp_bind]; refine wp_ext fun z μ3 => ?_
  cases asB z with
  | none => exact propext ⟨fun h => False.elim h, fun ⟨_, h, _⟩ => (nomatch h)⟩
  | some b => rw [op_some]; cases b <;> simp only [br_true, br_false, wp_bind, wp_pure]
theorem wp_andT {f g : Env → EM Bool} {Q : Bool → Mu → Prop} : Wp (fAndT f g env) μ Q E = Wp (f env) μ (fun b μ1 => Br b (Wp (g env) μ1 Q E) (Q false μ1)) E := by
  unfold fAndT; rw [wp_bind]; refine wp_ext fun b μ1 => ?_; cases b <;> rfl
theorem wp_orT {f g : Env → EM Bool} {Q : Bool → Mu → Prop} : Wp (fOrT f g env) μ Q E = Wp (f env) μ (fun b μ1 => Br b (Q true μ1) (Wp (g env) μ1 Q E)) E := by
  unfold fOrT; rw [wp_bind]; refine wp_ext fun b μ1 => ?_; cases b <;> rfl
theorem wp_notT {f : Env → EM Bool} {Q : Bool → Mu → Prop} : Wp (fNotT f env) μ Q E = Wp (f env) μ (fun b μ1 => Q (!b) μ1) E := by
  unfold fNotT; rw [wp_bind]; rfl
theorem wp_andV {f g : Env → EM D} {Q : D → Mu → Prop} : Wp (fAndV f g env) μ Q E = Wp (f env) μ (fun d μ1 => Op (asB d) fun b => Br b (Wp (g env) μ1 Q E) (Q (.bl false) μ1)) E := by
  unfold fAndV; rw [wp_bind]; refine wp_ext fun b μ1 => ?_
  cases asB b with
  | none => exact propext ⟨fun h => False.elim h, fun ⟨_, h, _⟩ => (nomatch h)⟩
  | some b => rw [op_some]; cases b <;> rfl
theorem wp_orV {f g : Env → EM D} {Q : D → Mu → Prop} : Wp (fOrV f g env) μ Q E = Wp (f env) μ (fun d μ1 => Op (asB d) fun b => Br b (Q (.bl true) μ1) (Wp (g env) μ1 Q E)) E := by
  unfold fOrV; rw [wp_bind]; refine wp_ext fun b μ1 => ?_
  cases asB b with
  | none => exact propext ⟨fun h => False.elim h, fun ⟨_, h, _⟩ => (nomatch h)⟩
  | some b => rw [op_some]; cases b <;> rfl
theorem wp_notV {f : Env → EM D} {Q : D → Mu → Prop} : Wp (fNotV f env) μ Q E = Wp (f env) μ (fun d μ1 => Op (asB d) fun b => Q (.bl (!b)) μ1) E := by
  unfold fNotV; rw [wp_bind]; refine wp_ext fun b μ1 => ?_
  cases asB b with
  | none => exact propext ⟨fun h => False.elim h, fun ⟨_, h, _⟩ => (nomatch h)⟩
  | some b => rw [op_some]; rfl
theorem wp_if {c : Env → EM Bool} {f g : Env → EM D} {Q : D → Mu → Prop} : Wp (fIf c f g env) μ Q E = Wp (c env) μ (fun b μ1 => Br b (Wp (f env) μ1 Q E) (Wp (g env) μ1 Q E)) E := by
  unfold fIf; rw [wp_bind]; refine wp_ext fun b μ1 => ?_; cases b <;> rfl
theorem wp_nil {Q : List D → Mu → Prop} : Wp (fNil env) μ Q E = Q [] μ := eqp rfl
theorem wp_cons {f : Env → EM D} {g : Env → EM (List D)} {Q : List D → Mu → Prop} : Wp (fCons f g env) μ Q E = Wp (f env) μ (fun d μ1 => Wp (g env) μ1 (fun ds μ2 => Q (d :: ds) μ2) E) E := by
  unfold fCons; rw [wp_bind]; refine wp_ext fun d μ1 => ?_; rw [wp_bind]; rfl
theorem wp_tup {g : Env → EM (List D)} {Q : D → Mu → Prop} : Wp (fTup g env) μ Q E = Wp (g env) μ (fun ds μ1 => ds.length ≤ big ∧ Q (.tup ds) μ1) E := by
  unfold fTup; rw [wp_bind]; refine wp_ext fun d μ1 => ?_; rw [wp_guard, decide_eq_true_eq]; rfl
theorem wp_lst {g : Env → EM (List D)} {Q : List D → Mu → Prop} : Wp (fLst g env) μ Q E = Wp (g env) μ (fun ds μ1 => ds.length ≤ big ∧ Q ds μ1) E := by
  unfold fLst; rw [wp_bind]; refine wp_ext fun d μ1 => ?_; rw [wp_guard, decide_eq_true_eq]; rfl
theorem wp_D {g : Env → EM (List D)} {Q : D → Mu → Prop} : Wp (fD g env) μ Q E = Wp (g env) μ (fun ds μ1 => Q (.lst ds) μ1) E := by
  unfold fD; rw [wp_bind]; rfl
theorem wp_cb {op : List D → EM α} {g : Env → EM (List D)} : Wp (fCB op g env) μ Q E = Wp (g env) μ (fun ds μ1 => Wp (op ds) μ1 Q E) E := wp_bind
theorem wp_call {n : Nat} {F : Fn} {dds : List D} {g : Env → EM (List D)} {Q : D → Mu → Prop} : Wp (fCall n F dds g env) μ Q E = Wp (g env) μ (fun ds μ1 => (ds ++ dds).length = n ∧ Wf F (ds ++ dds) μ1 Q E) E := by
  unfold fCall; rw [wp_bind]; refine wp_ext fun d μ1 => ?_; rw [wp_guard, decide_eq_true_eq, List.length_append]; rfl
theorem wp_isi {T : Isi} {cs : List Tag} {f : Env → EM D} {Q : D → Mu → Prop} : Wp (fIsi T cs f env) μ Q E = Wp (f env) μ (fun d μ1 => Op (tagD d μ1) fun t => Op (isiAny T t cs) fun b => Q (.bl b) μ1) E := by
  unfold fIsi; rw [wp_bind]; refine wp_ext fun d μ1 => ?_
  unfold isiE Wp
  cases h1 : tagD d μ1 with
  | none => simp only [h1]; exact propext ⟨fun h => False.elim h, fun ⟨_, h, _⟩ => (nomatch h)⟩
  | some t =>
    rw [op_some]
    cases h : isiAny T t cs with
    | none => simp only [h1, h]; exact propext ⟨fun h => False.elim h, fun ⟨_, h, _⟩ => (nomatch h)⟩
    | some b => rw [op_some]; simp only [h1, h]
theorem wp_neg {f : Env → EM D} {Q : D → Mu → Prop} : Wp (fNeg f env) μ Q E = Wp (f env) μ (fun d μ1 => Wp (negD d) μ1 Q E) E := wp_bind
theorem wp_sl {op : Option Int → Option Int → D → EM α} {f : Env → EM D} {l h : Env → EM (Option Int)} : Wp (fSl op f l h env) μ Q E = Wp (f env) μ (fun d μ1 => Wp (l env) μ1 (fun lo μ2 => Wp (h env) μ2 (fun hi μ3 => Wp (op lo hi d) μ3 Q E) E) E) E := by
  unfold fSl; rw [wp_bind]; refine wp_ext fun d μ1 => ?_; rw [wp_bind]; refine wp_ext fun lo μ2 => ?_; rw [wp_bind]
theorem wp_noP {Q : Option Int → Mu → Prop} : Wp (fNoP env) μ Q E = Q none μ := eqp rfl
def asI : D → Option Int
  | .int i => some i
  | _ => none
theorem wp_P {f : Env → EM D} {Q : Option Int → Mu → Prop} : Wp (fP f env) μ Q E = Wp (f env) μ (fun d μ1 => Op (asI d) fun i => Q (some i) μ1) E := by
  unfold fP; rw [wp_bind]; refine wp_ext fun d μ1 => ?_
  cases d <;> first
    | (exact propext ⟨fun h => False.elim h, fun ⟨_, h, _⟩ => (nomatch h)⟩)
    | (show Q _ _ = Op (some _) _; rw [op_some])
theorem wp_yes {Q : Bool → Mu → Prop} : Wp (fYes env) μ Q E = Q true μ := eqp rfl
theorem wp_items {f : Env → EM D} {Q : List D → Mu → Prop} : Wp (fItems f env) μ Q E = Wp (f env) μ (fun d μ1 => Op (itemsD d) fun ds => Q ds μ1) E := by
  unfold fItems; rw [wp_bind]; refine wp_ext fun d μ1 => ?_; rw [wp_opt]
def asS : D → Option Str
  | .str i => some i
  | _ => none
theorem wp_signs {f : Env → EM D} {Q : List D → Mu → Prop} : Wp (fSigns f env) μ Q E = Wp (f env) μ (fun d μ1 => Op (asS d) fun s => Q (signs s) μ1) E := by
  unfold fSigns; rw [wp_bind]; refine wp_ext fun d μ1 => ?_
  cases d <;> first
    | (exact propext ⟨fun h => False.elim h, fun ⟨_, h, _⟩ => (nomatch h)⟩)
    | (show Q _ _ = Op (some _) _; rw [op_some])
theorem wp_comp {vs : List Nat} {p : Pat} {src : Env → EM (List D)} {cond : Env → EM Bool} {elt : Env → EM D} {Q : List D → Mu → Prop} : Wp (fComp vs p src cond elt env) μ Q E = Wp (src env) μ (fun ds μ1 => Wp (compL p cond elt (wipeE env vs) ds) μ1 Q E) E := by
  unfold fComp; rw [wp_bind]
/-- each element alone, the store stays -/
theorem compL_pure {p : Pat} {cond : Env → EM Bool} {elt : Env → EM D} (c : D → Bool) (g : D → D) : ∀ (ds : List D), (∀ d ∈ ds, ∃ env1, bindP p d env = some env1 ∧ Wp (cond env1) μ (fun b μ' => b = c d ∧ μ' = μ) (fun _ _ _ => False) ∧ (c d = true → Wp (elt env1) μ (fun x μ' => x = g d ∧ μ' = μ) (fun _ _ _ => False))) →
    compL p cond elt env ds μ = some (.ok ((ds.filter c).map g), μ)
  | [], h => rfl
  | d :: r, h => by
    obtain ⟨env1, e1, h1, h2⟩ := h d (List.mem_cons_self ..)
    have ih := compL_pure c g r fun x hx => h x (List.mem_cons_of_mem _ hx)
    unfold compL
    rw [e1]
    simp only
    unfold Wp at h1 h2
    cases q : cond env1 μ with
    | none => rw [q] at h1; exact h1.elim
    | some o =>
      obtain ⟨o, μ'⟩ := o
      rw [q] at h1
      cases o with
      | exc c fs => exact h1.elim
      | ok b =>
        obtain ⟨rfl, rfl⟩ := h1
        cases hc : c d with
        | false =>
          simp only [bindE, noX, q, hc, List.filter_cons, Bool.false_eq_true, if_false]
          exact ih
        | true =>
          have h2 := h2 hc
          cases q2 : elt env1 μ' with
          | none => rw [q2] at h2; exact h2.elim
          | some o =>
            obtain ⟨o, μ''⟩ := o
            rw [q2] at h2
            cases o with
            | exc c fs => exact h2.elim
            | ok x =>
              obtain ⟨rfl, rfl⟩ := h2
              simp only [bindE, noX, q, q2, hc, List.filter_cons, if_true, ih, pureE, List.map_cons]
theorem wp_of_eq {m : EM α} {a : α} {μ' : Mu} (e : m μ = some (.ok a, μ')) (h : Q a μ') : Wp m μ Q E := by unfold Wp; rw [e]; exact h
theorem Wp.imp {m : EM α} {Q' : α → Mu → Prop} (h : Wp m μ Q E) (hi : ∀ a μ', Q a μ' → Q' a μ') : Wp m μ Q' E := by
  unfold Wp at h ⊢
  cases q : m μ with
  | none => rw [q] at h; exact h.elim
  | some o =>
    obtain ⟨o, μ1⟩ := o
    rw [q] at h
    cases o with
    | exc c fs => exact h
    | ok x => exact hi _ _ h

/-! commands -/
def thn (G : SM) (K : SO → Mu → Prop) : SO → Mu → Prop
  | .nx env', μ' => Wr G env' μ' K
  | o, μ' => K o μ'
theorem ws_seq {F G : SM} : Wr (fSeq F G) env μ K = Wr F env μ (thn G K) := by
  unfold Wr fSeq
  cases F env μ with
  | none => rfl
  | some r => obtain ⟨o, μ'⟩ := r; cases o <;> rfl
theorem thn_nx {G : SM} {e : Env} : thn G K (.nx e) μ = Wr G e μ K := eqp rfl
theorem thn_rt {G : SM} {d : D} : thn G K (.rt d) μ = K (.rt d) μ := eqp rfl
theorem thn_br {G : SM} {e : Env} : thn G K (.br e) μ = K (.br e) μ := eqp rfl
theorem thn_ct {G : SM} {e : Env} : thn G K (.ct e) μ = K (.ct e) μ := eqp rfl
theorem thn_exc {G : SM} {e : Env} {c : Nat} {fs : List (Str × D)} : thn G K (.exc c fs e) μ = K (.exc c fs e) μ := eqp rfl
def exS (env : Env) (K : SO → Mu → Prop) : PX := fun c fs μ' => K (.exc c fs env) μ'
theorem ws_lift {f : Env → EM α} {k : α → SM} : Wr (liftE f k) env μ K = Wp (f env) μ (fun a μ1 => Wr (k a) env μ1 K) (exS env K) := by
  unfold Wr liftE Wp
  cases f env μ with
  | none => rfl
  | some r => obtain ⟨o, μ'⟩ := r; cases o <;> rfl
theorem ws_skip : Wr fSkip env μ K = K (.nx env) μ := eqp rfl
theorem ws_break : Wr fBreak env μ K = K (.br env) μ := eqp rfl
theorem ws_cont : Wr fCont env μ K = K (.ct env) μ := eqp rfl
theorem ws_retN : Wr fRetN env μ K = K (.rt .non) μ := eqp rfl
theorem ws_set {i : Nat} {f : Env → EM D} : Wr (fSet i f) env μ K = Wp (f env) μ (fun d μ1 => K (.nx (env.set i (.v d))) μ1) (exS env K) := ws_lift
theorem ws_own {i : Nat} {f : Env → EM (List D)} : Wr (fSetOwn i f) env μ K = Wp (f env) μ (fun xs μ1 => K (.nx (env.set i (.own (.lst xs)))) μ1) (exS env K) := ws_lift
theorem ws_ret {f : Env → EM D} : Wr (fRet f) env μ K = Wp (f env) μ (fun d μ1 => K (.rt d) μ1) (exS env K) := ws_lift
theorem ws_drop {f : Env → EM D} : Wr (fDrop f) env μ K = Wp (f env) μ (fun d μ1 => K (.nx env) μ1) (exS env K) := ws_lift
theorem ws_if {c : Env → EM Bool} {F G : SM} : Wr (fIfS c F G) env μ K = Wp (c env) μ (fun b μ1 => Br b (Wr F env μ1 K) (Wr G env μ1 K)) (exS env K) := by
  unfold fIfS; rw [ws_lift]; refine wp_ext fun b μ1 => ?_; cases b <;> rfl
theorem ws_asg {p : Pat} {f : Env → EM D} : Wr (fAsg p f) env μ K = Wp (f env) μ (fun d μ1 => Op (bindP p d env) fun e => K (.nx e) μ1) (exS env K) := by
  unfold fAsg; rw [ws_lift]; refine wp_ext fun d μ1 => ?_
  unfold Wr
  cases h : bindP p d env with
  | none => simp only [h]; exact propext ⟨fun h => False.elim h, fun ⟨_, h, _⟩ => (nomatch h)⟩
  | some e => rw [op_some]; simp only [h]
theorem ws_par3 {i j l : Nat} {f g h : Env → EM D} : Wr (fPar3 i j l f g h) env μ K = Wp (f env) μ (fun d μ1 => Wp (g env) μ1 (fun e μ2 => Wp (h env) μ2 (fun d3 μ3 => K (.nx (((env.set i (.v d)).set j (.v e)).set l (.v d3))) μ3) (exS env K)) (exS env K)) (exS env K) := by
  unfold fPar3; rw [ws_lift]; refine wp_ext fun d μ1 => ?_; rw [ws_lift]; refine wp_ext fun e μ2 => ?_; rw [ws_lift]; rfl
theorem ws_par3o {i j l : Nat} {f : Env → EM (List D)} {g h : Env → EM D} : Wr (fPar3o i j l f g h) env μ K = Wp (f env) μ (fun xs μ1 => Wp (g env) μ1 (fun e μ2 => Wp (h env) μ2 (fun d3 μ3 => K (.nx (((env.set i (.own (.lst xs))).set j (.v e)).set l (.v d3))) μ3) (exS env K)) (exS env K)) (exS env K) := by
  unfold fPar3o; rw [ws_lift]; unfold fCmb; rw [wp_bind]; refine wp_ext fun xs μ1 => ?_; rw [wp_bind]; refine wp_ext fun e μ2 => ?_; rw [wp_bind]; refine wp_ext fun d3 μ3 => ?_; rw [wp_pure]; rfl
theorem ws_par {i j : Nat} {f g : Env → EM D} : Wr (fPar i j f g) env μ K = Wp (f env) μ (fun d μ1 => Wp (g env) μ1 (fun e μ2 => K (.nx ((env.set i (.v d)).set j (.v e))) μ2) (exS env K)) (exS env K) := by
  unfold fPar; rw [ws_lift]; refine wp_ext fun d μ1 => ?_; rw [ws_lift]; rfl
def cellL (x : D) (μ : Mu) : Option (Nat × List D) := match x with
  | .cell n => match μ[n]? with
    | some (.lst xs) => some (n, xs)
    | _ => none
  | _ => none
theorem ws_setC {o i e : Env → EM D} : Wr (fSetC o i e) env μ K = Wp (e env) μ (fun d μ1 => Wp (o env) μ1 (fun x μ2 => Wp (i env) μ2 (fun y μ3 => Op (cellL x μ3) fun p => Op (setAt p.2 y d) fun ys => K (.nx env) (μ3.set p.1 (.lst ys))) (exS env K)) (exS env K)) (exS env K) := by
  unfold fSetC; rw [ws_lift]; refine wp_ext fun d μ1 => ?_; rw [ws_lift]; refine wp_ext fun x μ2 => ?_; rw [ws_lift]; refine wp_ext fun y μ3 => ?_
  unfold Wr cellL
  have no : ∀ {α : Type} {p : α → Prop}, False = Op (none : Option α) p := fun {α p} => propext ⟨fun h => False.elim h, fun ⟨_, h, _⟩ => (nomatch h)⟩
  cases x with
  | cell n =>
    simp only
    cases h : μ3[n]? with
    | none => exact no
    | some c =>
      cases c with
      | lst xs =>
        simp only [op_some]
        cases h : setAt xs y d with
        | none => exact no
        | some ys => simp only [op_some]
      | _ => exact no
  | _ => exact no
theorem wp_newc {g : Env → EM (List D)} {Q : D → Mu → Prop} : Wp (fNewc g env) μ Q E = Wp (g env) μ (fun xs μ1 => Q (.cell μ1.length) (μ1 ++ [.lst xs])) E := by
  unfold fNewc; rw [wp_bind]; rfl
def ownO (sl : Option Slot) : Option (List D) := match sl with
  | some (.own (.lst xs)) => some xs
  | _ => none
theorem ws_ownL {n : Nat} {k : List D → SM} : Wr (ownL n k) env μ K = Op (ownO env[n]?) fun xs => Wr (k xs) env μ K := by
  unfold ownL Wr ownO
  dsimp only
  have no : ∀ {α : Type} {p : α → Prop}, False = Op (none : Option α) p := fun {α p} => propext ⟨fun h => False.elim h, fun ⟨_, h, _⟩ => (nomatch h)⟩
  cases env[n]? with
  | none => exact no
  | some sl =>
    cases sl with
    | own c =>
      cases c with
      | lst xs => rw [op_some]
      | _ => exact no
    | _ => exact no
theorem ws_app {n : Nat} {e : Env → EM D} : Wr (fApp n e) env μ K = Op (ownO env[n]?) fun xs => Wp (e env) μ (fun d μ1 => xs.length < big ∧ K (.nx (env.set n (.own (.lst (xs ++ [d]))))) μ1) (exS env K) := by
  unfold fApp; rw [ws_ownL]; refine op_ext fun xs => ?_; rw [ws_lift]; refine wp_ext fun d μ1 => ?_
  unfold Wr
  by_cases h : xs.length < big <;> simp [h]
theorem ws_ext {n : Nat} {e : Env → EM D} : Wr (fExt n e) env μ K = Op (ownO env[n]?) fun xs => Wp (e env) μ (fun d μ1 => Op (lstD d μ1) fun ys => xs.length + ys.length ≤ big ∧ K (.nx (env.set n (.own (.lst (xs ++ ys))))) μ1) (exS env K) := by
  unfold fExt; rw [ws_ownL]; refine op_ext fun xs => ?_; rw [ws_lift]; refine wp_ext fun d μ1 => ?_
  unfold Wr
  cases h : lstD d μ1 with
  | none => simp only [h]; exact propext ⟨fun h => False.elim h, fun ⟨_, h, _⟩ => (nomatch h)⟩
  | some ys => rw [op_some]; simp only [h]; by_cases h : xs.length + ys.length ≤ big <;> simp [h]
theorem ws_setI {n : Nat} {i e : Env → EM D} : Wr (fSetI n i e) env μ K = Wp (e env) μ (fun d μ1 => Op (ownO env[n]?) fun xs => Wp (i env) μ1 (fun y μ2 => Op (setAt xs y d) fun ys => K (.nx (env.set n (.own (.lst ys)))) μ2) (exS env K)) (exS env K) := by
  unfold fSetI; rw [ws_lift]; refine wp_ext fun d μ1 => ?_; rw [ws_ownL]; refine op_ext fun xs => ?_; rw [ws_lift]; refine wp_ext fun y μ2 => ?_
  unfold Wr
  cases h : setAt xs y d with
  | none => simp only [h]; exact propext ⟨fun h => False.elim h, fun ⟨_, h, _⟩ => (nomatch h)⟩
  | some ys => rw [op_some]
def frzS (env : Env) (i : Nat) : Option Env := match env[i]? with
  | some (.own c) => some (env.set i (.v c.toD))
  | some (.v d) => some (env.set i (.v d))
  | _ => none
theorem ws_frz {i : Nat} : Wr (fFreeze i) env μ K = Op (frzS env i) fun e => K (.nx e) μ := by
  unfold fFreeze Wr frzS
  dsimp only
  cases env[i]? with
  | none => exact propext ⟨fun h => False.elim h, fun ⟨_, h, _⟩ => (nomatch h)⟩
  | some sl =>
    cases sl with
    | no => exact propext ⟨fun h => False.elim h, fun ⟨_, h, _⟩ => (nomatch h)⟩
    | v d => rw [op_some]
    | own c => rw [op_some]
def Wl (p : Pat) (body : SM) (ds : List D) (env : Env) (μ : Mu) (K : SO → Mu → Prop) (_u : Tk (body, K) := ⟨⟩) : Prop := Wr (loopF p body ds) env μ K
theorem ws_for {p : Pat} {src : Env → EM (List D)} {body : SM} : Wr (fFor p src body) env μ K = Wp (src env) μ (fun ds μ1 => Wl p body ds env μ1 K) (exS env K) := ws_lift
/-- one turn's end -/
def turn (p : Pat) (body : SM) (r : List D) (K : SO → Mu → Prop) : SO → Mu → Prop
  | .nx e, μ => Wl p body r e μ K
  | .ct e, μ => Wl p body r e μ K
  | .br e, μ => K (.nx e) μ
  | .rt d, μ => K (.rt d) μ
  | .exc c fs e, μ => K (.exc c fs e) μ
theorem wl_nil {p : Pat} {body : SM} : Wl p body [] env μ K = K (.nx env) μ := eqp rfl
theorem wl_cons {p : Pat} {body : SM} {d : D} {r : List D} : Wl p body (d :: r) env μ K = Op (bindP p d env) fun e => Wr body e μ (turn p body r K) := by
  show Wr (loopF p body (d :: r)) env μ K = _
  unfold Wr
  unfold loopF
  cases h : bindP p d env with
  | none => simp only [h]; exact propext ⟨fun h => False.elim h, fun ⟨_, h, _⟩ => (nomatch h)⟩
  | some e =>
    rw [op_some]
    simp only [h]
    cases h2 : body e μ with
    | none => simp only [h2]
    | some r => obtain ⟨o, μ'⟩ := r; cases o <;> simp only [h2] <;> rfl
def lpS (I : Env → Mu → Prop) (K : SO → Mu → Prop) : SO → Mu → Prop
  | .nx e, μ => I e μ
  | .ct e, μ => I e μ
  | .br e, μ => K (.nx e) μ
  | .rt d, μ => K (.rt d) μ
  | .exc c fs e, μ => K (.exc c fs e) μ
theorem Wr.imp {F : SM} {K' : SO → Mu → Prop} (h : Wr F env μ K) (hi : ∀ o μ', K o μ' → K' o μ') : Wr F env μ K' := by
  unfold Wr at h ⊢
  cases q : F env μ with
  | none => rw [q] at h; exact h.elim
  | some o => rw [q] at h; exact hi _ _ h
/-- an invariant over what is left -/
theorem wl_inv {p : Pat} {body : SM} (I : List D → Env → Mu → Prop) (step : ∀ d r env μ, I (d :: r) env μ → ∃ e, bindP p d env = some e ∧ Wr body e μ (lpS (I r) K)) (fin : ∀ env μ, I [] env μ → K (.nx env) μ) :
    ∀ (ds : List D) (env : Env) (μ : Mu), I ds env μ → Wl p body ds env μ K
  | [], env, μ, h => fin env μ h
  | d :: r, env, μ, h => by
    obtain ⟨e, e1, h1⟩ := step d r env μ h
    rw [wl_cons, e1, op_some]
    refine h1.imp fun o μ' q => ?_
    cases o with
    | nx e => exact wl_inv I step fin r e μ' q
    | ct e => exact wl_inv I step fin r e μ' q
    | br e => exact q
    | rt d => exact q
    | exc c fs e => exact q
/-! defs -/
def retS (Q : D → Mu → Prop) (E : PX) : SO → Mu → Prop
  | .nx _, μ => Q .non μ
  | .rt d, μ => Q d μ
  | .exc c fs _, μ => E c fs μ
  | _, _ => False
theorem wf_run {n : Nat} {F : SM} {ds : List D} {Q : D → Mu → Prop} : Wf (runF n F) ds μ Q E = Wr F (env0 n ds) μ (retS Q E) := by
  unfold Wf Wp runF Wr
  cases F (env0 n ds) μ with
  | none => rfl
  | some r => obtain ⟨o, μ'⟩ := r; cases o <;> rfl
theorem retS_nx {Q : D → Mu → Prop} {e : Env} : retS Q E (.nx e) μ = Q .non μ := eqp rfl
theorem retS_rt {Q : D → Mu → Prop} {d : D} : retS Q E (.rt d) μ = Q d μ := eqp rfl
theorem lpS_nx {I : Env → Mu → Prop} {e : Env} : lpS I K (.nx e) μ = I e μ := eqp rfl
theorem lpS_ct {I : Env → Mu → Prop} {e : Env} : lpS I K (.ct e) μ = I e μ := eqp rfl
theorem lpS_br {I : Env → Mu → Prop} {e : Env} : lpS I K (.br e) μ = K (.nx e) μ := eqp rfl
theorem lpS_rt {I : Env → Mu → Prop} {d : D} : lpS I K (.rt d) μ = K (.rt d) μ := eqp rfl
theorem turn_nx {p : Pat} {body : SM} {r : List D} {e : Env} : turn p body r K (.nx e) μ = Wl p body r e μ K := eqp rfl
theorem turn_ct {p : Pat} {body : SM} {r : List D} {e : Env} : turn p body r K (.ct e) μ = Wl p body r e μ K := eqp rfl
theorem turn_br {p : Pat} {body : SM} {r : List D} {e : Env} : turn p body r K (.br e) μ = K (.nx e) μ := eqp rfl
theorem turn_rt {p : Pat} {body : SM} {r : List D} {d : D} : turn p body r K (.rt d) μ = K (.rt d) μ := eqp rfl

/-! operators on what is known -/
theorem wp_addI {i j : Int} {Q : D → Mu → Prop} : Wp (addD (.int i) (.int j)) μ Q E = Q (.int (i + j)) μ := eqp rfl
theorem wp_addS {i j : Str} {Q : D → Mu → Prop} : Wp (addD (.str i) (.str j)) μ Q E = (i.length + j.length ≤ big ∧ Q (.str (i ++ j)) μ) := by
  unfold addD; rw [wp_guard, decide_eq_true_eq]; rfl
theorem wp_subI {i j : Int} {Q : D → Mu → Prop} : Wp (subD (.int i) (.int j)) μ Q E = Q (.int (i - j)) μ := eqp rfl
theorem wp_mulI {i j : Int} {Q : D → Mu → Prop} : Wp (mulD (.int i) (.int j)) μ Q E = (okMul i j = true ∧ Q (.int (i * j)) μ) := wp_guard
theorem wp_divI {i j : Int} {Q : D → Mu → Prop} : Wp (divD (.int i) (.int j)) μ Q E = ((0 < j ∧ j < 2 ^ 64) ∧ Q (.int (i / j)) μ) := by
  unfold divD; rw [wp_guard, decide_eq_true_eq]; rfl
theorem wp_modI {i j : Int} {Q : D → Mu → Prop} : Wp (modD (.int i) (.int j)) μ Q E = (0 < j ∧ Q (.int (i % j)) μ) := by
  unfold modD; rw [wp_guard, decide_eq_true_eq]; rfl
theorem wp_powI {i j : Int} {Q : D → Mu → Prop} : Wp (powD (.int i) (.int j)) μ Q E = ((0 ≤ j ∧ j ≤ 1000000 ∧ i.natAbs < 2 ^ 64) ∧ Q (.int (i ^ j.toNat)) μ) := by
  unfold powD; rw [wp_guard, decide_eq_true_eq]; rfl
theorem wp_cmpI {p : Int → Int → Bool} {i j : Int} {Q : D → Mu → Prop} : Wp (cmpI p (.int i) (.int j)) μ Q E = Q (.bl (p i j)) μ := eqp rfl
theorem wp_eq {d e : D} {Q : D → Mu → Prop} : Wp (eqDD d e) μ Q E = Op (eqD d e) fun b => Q (.bl b) μ := by
  unfold eqDD; rw [wp_opt]
  cases eqD d e with
  | none => exact propext ⟨fun ⟨_, h, _⟩ => (nomatch h), fun ⟨_, h, _⟩ => (nomatch h)⟩
  | some b => rw [Option.map_some, op_some, op_some]
theorem wp_ne {d e : D} {Q : D → Mu → Prop} : Wp (neDD d e) μ Q E = Op (eqD d e) fun b => Q (.bl (!b)) μ := by
  unfold neDD; rw [wp_opt]
  cases eqD d e with
  | none => exact propext ⟨fun ⟨_, h, _⟩ => (nomatch h), fun ⟨_, h, _⟩ => (nomatch h)⟩
  | some b => rw [Option.map_some, op_some, op_some]
theorem wp_negI {i : Int} {Q : D → Mu → Prop} : Wp (negD (.int i)) μ Q E = Q (.int (-i)) μ := eqp rfl
theorem wp_seqE {d : D} {Q : List D → Mu → Prop} : Wp (seqE d) μ Q E = Op (seqD d μ) fun xs => Q xs μ := by
  unfold Wp seqE
  cases seqD d μ with
  | none => exact propext ⟨fun h => False.elim h, fun ⟨_, h, _⟩ => (nomatch h)⟩
  | some xs => rw [op_some]
theorem wp_lstE {d : D} {Q : List D → Mu → Prop} : Wp (lstE d) μ Q E = Op (lstD d μ) fun xs => Q xs μ := by
  unfold Wp lstE
  cases lstD d μ with
  | none => exact propext ⟨fun h => False.elim h, fun ⟨_, h, _⟩ => (nomatch h)⟩
  | some xs => rw [op_some]
end
end EG
namespace EG
open PySem L2

section
variable {α β : Type} {μ : Mu} {E : PX} {Q : D → Mu → Prop} {QL : List D → Mu → Prop}
theorem atI_nn {xs : List α} {i : Int} (h : 0 ≤ i) : atI xs i = xs[i.toNat]? := by
  unfold atI ixN
  by_cases h2 : i < xs.length
  · simp [h, h2]
  · simp [h, h2]
theorem setAt_nn {xs : List D} {i : Int} {d : D} (h : 0 ≤ i) (h2 : i.toNat < xs.length) : setAt xs (.int i) d = some (xs.set i.toNat d) := by
  unfold setAt ixN
  have : i < xs.length := by omega
  simp [h, this]
theorem wp_ixL {xs : List D} {i : Int} : Wp (ixD (.lst xs) (.int i)) μ Q E = Op (atI xs i) fun d => Q d μ := by
  show Wp (bindE (seqE (.lst xs)) fun ys => optE (atI ys i)) μ Q E = _
  rw [wp_bind, wp_seqE]; show Op (some xs) _ = _; rw [op_some, wp_opt]
theorem wp_ixT {xs : List D} {i : Int} : Wp (ixD (.tup xs) (.int i)) μ Q E = Op (atI xs i) fun d => Q d μ := by
  show Wp (bindE (seqE (.tup xs)) fun ys => optE (atI ys i)) μ Q E = _
  rw [wp_bind, wp_seqE]; show Op (some xs) _ = _; rw [op_some, wp_opt]
theorem wp_ixC {n : Nat} {i : Int} : Wp (ixD (.cell n) (.int i)) μ Q E = Op (seqD (.cell n) μ) fun xs => Op (atI xs i) fun d => Q d μ := by
  show Wp (bindE (seqE _) _) μ Q E = _
  rw [wp_bind, wp_seqE]; refine op_ext fun xs => ?_; rw [wp_opt]
theorem wp_ixS {s : Str} {i : Int} : Wp (ixD (.str s) (.int i)) μ Q E = Op (atI s.cps.toList i) fun c => Q (.str ⟨#[c]⟩) μ := by
  unfold ixD
  simp only
  cases h : atI s.cps.toList i with
  | none => exact propext ⟨fun h => False.elim h, fun ⟨_, h, _⟩ => (nomatch h)⟩
  | some c => rw [op_some]; rfl
theorem wp_lenS {s : Str} : Wp (lenD [.str s]) μ Q E = Q (.int s.length) μ := eqp rfl
theorem wp_lenL {xs : List D} : Wp (lenD [.lst xs]) μ Q E = Q (.int xs.length) μ := eqp rfl
theorem wp_lenT {xs : List D} : Wp (lenD [.tup xs]) μ Q E = Q (.int xs.length) μ := eqp rfl
theorem wp_lenC {n : Nat} : Wp (lenD [.cell n]) μ Q E = Op (seqD (.cell n) μ) fun xs => Q (.int xs.length) μ := by
  show Wp (bindE (seqE _) _) μ Q E = _
  rw [wp_bind, wp_seqE]; rfl
theorem wp_absI {i : Int} : Wp (absD [.int i]) μ Q E = Q (.int (if i < 0 then -i else i)) μ := eqp rfl
theorem wp_intI {i : Int} : Wp (intD [.int i]) μ Q E = Q (.int i) μ := eqp rfl
theorem wp_intB {b : Bool} : Wp (intD [.bl b]) μ Q E = Q (.int (if b then 1 else 0)) μ := eqp rfl
theorem wp_intS {s : Str} : Wp (intD [.str s]) μ Q E = (s.length ≤ 640 ∧ Op (PySem.intText? s) fun i => Q (.int i) μ) := by
  unfold intD; rw [wp_guard, decide_eq_true_eq, wp_opt]
  cases PySem.intText? s with
  | none => congr 1; exact propext ⟨fun ⟨_, h, _⟩ => (nomatch h), fun ⟨_, h, _⟩ => (nomatch h)⟩
  | some i => rw [Option.map_some, op_some, op_some]
theorem wp_strI {i : Int} : Wp (strD [.int i]) μ Q E = ((i.natAbs.log2 < 1920 ∧ (Str.ofString (toString i)).length ≤ big) ∧ Q (.str (toString i)) μ) := by
  unfold strD; rw [wp_guard, Bool.and_eq_true, decide_eq_true_eq, decide_eq_true_eq]; rfl
theorem wp_boolI {i : Int} : Wp (boolD [.int i]) μ Q E = Q (.bl (i != 0)) μ := eqp rfl
theorem wp_boolB {i : Bool} : Wp (boolD [.bl i]) μ Q E = Q (.bl i) μ := eqp rfl
theorem wp_all {d : D} : Wp (allD [d]) μ Q E = Op (lstD d μ) fun xs => Op (boolsD xs) fun bs => Q (.bl (bs.all id)) μ := by
  unfold allD; rw [wp_bind, wp_lstE]; refine op_ext fun xs => ?_; rw [wp_opt]
  cases boolsD xs with
  | none => exact propext ⟨fun ⟨_, h, _⟩ => (nomatch h), fun ⟨_, h, _⟩ => (nomatch h)⟩
  | some i => rw [Option.map_some, op_some, op_some]
theorem wp_any {d : D} : Wp (anyD [d]) μ Q E = Op (lstD d μ) fun xs => Op (boolsD xs) fun bs => Q (.bl (bs.any id)) μ := by
  unfold anyD; rw [wp_bind, wp_lstE]; refine op_ext fun xs => ?_; rw [wp_opt]
  cases boolsD xs with
  | none => exact propext ⟨fun ⟨_, h, _⟩ => (nomatch h), fun ⟨_, h, _⟩ => (nomatch h)⟩
  | some i => rw [Option.map_some, op_some, op_some]
theorem wp_sum {d : D} : Wp (sumD [d]) μ Q E = Op (lstD d μ) fun xs => Op (intsD xs) fun bs => Q (.int bs.sum) μ := by
  unfold sumD; rw [wp_bind, wp_lstE]; refine op_ext fun xs => ?_; rw [wp_opt]
  cases intsD xs with
  | none => exact propext ⟨fun ⟨_, h, _⟩ => (nomatch h), fun ⟨_, h, _⟩ => (nomatch h)⟩
  | some i => rw [Option.map_some, op_some, op_some]
theorem wp_max2 {i j : Int} : Wp (maxD [.int i, .int j]) μ Q E = Q (.int (max i j)) μ := eqp rfl
theorem wp_min2 {i j : Int} : Wp (minD [.int i, .int j]) μ Q E = Q (.int (min i j)) μ := eqp rfl
theorem wp_minT {d : D} : Wp (minTD [d]) μ Q E = Op (lstD d μ) fun xs => Op (tupsD xs) fun ls => ls ≠ [] ∧ Q (.tup ((lexI (ls.headD []) ls.tail).map .int)) μ := by
  unfold minTD
  rw [wp_bind, wp_lstE]; refine op_ext fun xs => ?_
  rw [wp_opt]
  cases tupsD xs with
  | none => exact propext ⟨fun ⟨_, h, _⟩ => (nomatch h), fun ⟨_, h, _⟩ => (nomatch h)⟩
  | some ns =>
    cases ns with
    | nil => simp only [op_some]; exact propext ⟨fun ⟨_, h, _⟩ => (nomatch h), fun h => (h.1 rfl).elim⟩
    | cons n ns => simp only [op_some]; exact propext ⟨fun h => ⟨List.cons_ne_nil _ _, h⟩, fun h => h.2⟩
theorem wp_list {d : D} : Wp (listD [d]) μ QL E = Op (seqD d μ) fun xs => QL xs μ := wp_seqE
theorem wp_tuple {d : D} : Wp (tupleD [d]) μ Q E = Op (seqD d μ) fun xs => Q (.tup xs) μ := by
  unfold tupleD; rw [wp_bind, wp_seqE]; rfl
theorem wp_sorted {d : D} : Wp (sortedD [d]) μ QL E = Op (lstD d μ) fun xs => Op (intsD xs) fun ns => ns.length < 64 ∧ QL ((sortI ns).map .int) μ := by
  unfold sortedD; rw [wp_bind, wp_lstE]; refine op_ext fun xs => ?_
  cases intsD xs with
  | none => exact propext ⟨fun h => False.elim h, fun ⟨_, h, _⟩ => (nomatch h)⟩
  | some i => rw [op_some]; simp only; rw [wp_guard, decide_eq_true_eq]; rfl
theorem wp_slS {s : Str} {lo hi : Option Int} : Wp (slD lo hi (.str s)) μ Q E = Q (.str (cutS s lo hi)) μ := eqp rfl
theorem wp_slT {xs : List D} {lo hi : Option Int} : Wp (slD lo hi (.tup xs)) μ Q E = Q (.tup (cutL xs lo hi)) μ := eqp rfl
theorem wp_slLD {xs : List D} {lo hi : Option Int} : Wp (slD lo hi (.lst xs)) μ Q E = Q (.lst (cutL xs lo hi)) μ := eqp rfl
theorem wp_slC {ns : List Int} {lo hi : Option Int} : Wp (slL lo hi (.scr ns)) μ QL E = QL (cutL (ns.map D.int) lo hi) μ := eqp rfl
theorem wp_slL {xs : List D} {lo hi : Option Int} : Wp (slL lo hi (.lst xs)) μ QL E = QL (cutL xs lo hi) μ := eqp rfl
theorem wp_range1 {j : Int} : Wp (rangeD1 [.int j]) μ QL E = ((-(2 ^ 62) ≤ j ∧ j < 2 ^ 62 ∧ j.toNat ≤ big) ∧ QL (rangeL 0 j.toNat) μ) := by
  unfold rangeD1; rw [wp_guard, decide_eq_true_eq]; rfl
theorem wp_range2 {i j : Int} : Wp (rangeD2 [.int i, .int j]) μ QL E = ((-(2 ^ 62) ≤ i ∧ i < 2 ^ 62 ∧ -(2 ^ 62) ≤ j ∧ j < 2 ^ 62 ∧ (j - i).toNat ≤ big) ∧ QL (rangeL i (j - i).toNat) μ) := by
  unfold rangeD2; rw [wp_guard, decide_eq_true_eq]; rfl
theorem wp_enum {xs : List D} : Wp (enumD [.lst xs]) μ QL E = QL (enumL 0 xs) μ := eqp rfl
theorem wp_enumT {xs : List D} : Wp (enumD [.tup xs]) μ QL E = QL (enumL 0 xs) μ := eqp rfl
theorem wp_zip {xs ys : List D} : Wp (zipD [.lst xs, .lst ys]) μ QL E = QL (zipL xs ys) μ := eqp rfl
theorem wp_zipTT {xs ys : List D} : Wp (zipD [.tup xs, .tup ys]) μ QL E = QL (zipL xs ys) μ := eqp rfl
theorem wp_zipTL {xs ys : List D} : Wp (zipD [.tup xs, .lst ys]) μ QL E = QL (zipL xs ys) μ := eqp rfl
theorem wp_zipLT {xs ys : List D} : Wp (zipD [.lst xs, .tup ys]) μ QL E = QL (zipL xs ys) μ := eqp rfl
theorem wp_cat {x y : D} : Wp (catD x y) μ QL E = Op (lstD x μ) fun xs => Op (lstD y μ) fun ys => xs.length + ys.length ≤ big ∧ QL (xs ++ ys) μ := by
  unfold catD; rw [wp_bind, wp_lstE]; refine op_ext fun xs => ?_; rw [wp_bind, wp_lstE]; refine op_ext fun ys => ?_; rw [wp_guard, decide_eq_true_eq]; rfl
theorem wp_rep {x : D} {k : Int} : Wp (repD x (.int k)) μ QL E = Op (lstD x μ) fun xs => (-(2 ^ 63) ≤ k ∧ k < 2 ^ 63 ∧ xs.length * k.toNat ≤ big) ∧ QL (repL k.toNat xs) μ := by
  unfold repD; simp only; rw [wp_bind, wp_lstE]; refine op_ext fun xs => ?_; rw [wp_guard, decide_eq_true_eq]; rfl
theorem wp_inSg {c : Nat} {z : Str} : Wp (inD (.str ⟨#[c]⟩) (.str z)) μ Q E = Q (.bl (decide (c ∈ z.cps.toList))) μ := eqp rfl
theorem wp_notInSg {c : Nat} {z : Str} : Wp (notInD (.str ⟨#[c]⟩) (.str z)) μ Q E = Q (.bl (!decide (c ∈ z.cps.toList))) μ := eqp rfl
theorem in_eq {x y : D} (h : ∀ a z, x = .str a → y = .str z → False) : inD x y = bindE (seqE y) fun xs => optE ((inL x xs).map .bl) := by
  unfold inD
  split
  · exact (h _ _ rfl rfl).elim
  · rfl
theorem wp_inL {x : D} {xs : List D} : Wp (inD x (.lst xs)) μ Q E = Op (inL x xs) fun b => Q (.bl b) μ := by
  rw [in_eq (fun _ _ _ h => by cases h), wp_bind, wp_seqE]; show Op (some xs) _ = _; rw [op_some, wp_opt]
  cases inL x xs with
  | none => exact propext ⟨fun ⟨_, h, _⟩ => (nomatch h), fun ⟨_, h, _⟩ => (nomatch h)⟩
  | some i => rw [Option.map_some, op_some, op_some]
theorem wp_inT {x : D} {xs : List D} : Wp (inD x (.tup xs)) μ Q E = Op (inL x xs) fun b => Q (.bl b) μ := by
  rw [in_eq (fun _ _ _ h => by cases h), wp_bind, wp_seqE]; show Op (some xs) _ = _; rw [op_some, wp_opt]
  cases inL x xs with
  | none => exact propext ⟨fun ⟨_, h, _⟩ => (nomatch h), fun ⟨_, h, _⟩ => (nomatch h)⟩
  | some i => rw [Option.map_some, op_some, op_some]
theorem wp_notIn {x y : D} : Wp (notInD x y) μ Q E = Wp (inD x y) μ (fun z μ' => Op (asB z) fun b => Q (.bl (!b)) μ') E := by
  unfold notInD; rw [wp_bind]; refine wp_ext fun z μ' => ?_
  cases z <;> first
    | (exact propext ⟨fun h => False.elim h, fun ⟨_, h, _⟩ => (nomatch h)⟩)
    | (show Q _ _ = Op (some _) _; rw [op_some])
/-- is None -/
def nonB : D → Option Bool
  | .non => some true
  | .cell _ => some false | .bl _ => some false | .int _ => some false | .str _ => some false | .lst _ => some false | .tup _ => some false | .obj _ _ => some false
  | _ => none
theorem wp_isN {d : D} : Wp (isND d .non) μ Q E = Op (nonB d) fun b => Q (.bl b) μ := by
  cases d <;> first
    | (show Q _ _ = Op (some _) _; rw [op_some])
    | (exact propext ⟨fun h => False.elim h, fun ⟨_, h, _⟩ => (nomatch h)⟩)
theorem wp_notN {d : D} : Wp (notND d .non) μ Q E = Op (nonB d) fun b => Q (.bl (!b)) μ := by
  unfold notND; rw [wp_bind, wp_isN]; congr 1
theorem wp_isB {a b : Bool} : Wp (isND (.bl a) (.bl b)) μ Q E = Q (.bl (decide (a = b))) μ := eqp rfl
theorem wp_notB {a b : Bool} : Wp (notND (.bl a) (.bl b)) μ Q E = Q (.bl (!decide (a = b))) μ := eqp rfl
theorem tt1 : tyTab "bool" "int" = some true := by decide
theorem tt2 : tyTab "bool" "bool" = some true := by decide
theorem tt3 : tyTab "int" "int" = some true := by decide
theorem tt4 : tyTab "str" "str" = some true := by decide
theorem tt5 : tyTab "list" "list" = some true := by decide
theorem tt6 : tyTab "tuple" "tuple" = some true := by decide
theorem tu1 : tyTab "NoneType" "bool" = some false := by decide
theorem tu2 : tyTab "NoneType" "int" = some false := by decide
theorem tu3 : tyTab "NoneType" "str" = some false := by decide
theorem tu4 : tyTab "NoneType" "list" = some false := by decide
theorem tu5 : tyTab "NoneType" "tuple" = some false := by decide
theorem tu6 : tyTab "bool" "str" = some false := by decide
theorem tu7 : tyTab "bool" "list" = some false := by decide
theorem tu8 : tyTab "bool" "tuple" = some false := by decide
theorem tu9 : tyTab "int" "bool" = some false := by decide
theorem tu10 : tyTab "int" "str" = some false := by decide
theorem tu11 : tyTab "int" "list" = some false := by decide
theorem tu12 : tyTab "int" "tuple" = some false := by decide
theorem tu13 : tyTab "str" "bool" = some false := by decide
theorem tu14 : tyTab "str" "int" = some false := by decide
theorem tu15 : tyTab "str" "list" = some false := by decide
theorem tu16 : tyTab "str" "tuple" = some false := by decide
theorem tu17 : tyTab "list" "bool" = some false := by decide
theorem tu18 : tyTab "list" "int" = some false := by decide
theorem tu19 : tyTab "list" "str" = some false := by decide
theorem tu20 : tyTab "list" "tuple" = some false := by decide
theorem tu21 : tyTab "tuple" "bool" = some false := by decide
theorem tu22 : tyTab "tuple" "int" = some false := by decide
theorem tu23 : tyTab "tuple" "str" = some false := by decide
theorem tu24 : tyTab "tuple" "list" = some false := by decide
theorem le_big {n : Nat} (h : n ≤ 16777216) : (n ≤ big) = True := eq_true h
theorem nA10 : Int.natAbs 10 = 10 := eqp rfl
theorem nA2 : Int.natAbs 2 = 2 := eqp rfl
theorem asB_bl {b : Bool} : asB (.bl b) = some b := eqp rfl
theorem truD_non : truD .non = some false := eqp rfl
theorem truD_bl {b : Bool} : truD (.bl b) = some b := eqp rfl
theorem truD_int {i : Int} : truD (.int i) = some (i != 0) := eqp rfl
theorem truD_str {s : Str} : truD (.str s) = some (s.length != 0) := eqp rfl
theorem truD_lst {xs : List D} : truD (.lst xs) = some (!xs.isEmpty) := eqp rfl
theorem truD_tup {xs : List D} : truD (.tup xs) = some (!xs.isEmpty) := eqp rfl
theorem asI_int {i : Int} : asI (.int i) = some i := eqp rfl
theorem asS_str {s : Str} : asS (.str s) = some s := eqp rfl
theorem items_lst {xs : List D} : itemsD (.lst xs) = some xs := eqp rfl
theorem items_tup {xs : List D} : itemsD (.tup xs) = some xs := eqp rfl
theorem items_str {s : Str} : itemsD (.str s) = some (signs s) := eqp rfl
theorem valS_v {d : D} : valS (some (.v d)) = some d := eqp rfl
theorem valB_v {d : D} : valB (some (.v d)) = some d := eqp rfl
theorem valB_own {c : Cell} : valB (some (.own c)) = some c.toD := eqp rfl
theorem seqD_lst {xs : List D} : seqD (.lst xs) μ = some xs := eqp rfl
theorem seqD_tup {xs : List D} : seqD (.tup xs) μ = some xs := eqp rfl
theorem seqD_cell0 {xs : List D} : seqD (.cell 0) (.lst xs :: μ) = some xs := eqp rfl
theorem lstD_lst {xs : List D} : lstD (.lst xs) μ = some xs := eqp rfl
theorem lstD_cell0 {xs : List D} : lstD (.cell 0) (.lst xs :: μ) = some xs := eqp rfl
theorem cellL_0 {xs : List D} : cellL (.cell 0) (.lst xs :: μ) = some (0, xs) := eqp rfl
theorem own_lst {xs : List D} : ownO (some (.own (.lst xs))) = some xs := eqp rfl
theorem nonB_non : nonB .non = some true := eqp rfl
theorem nonB_bl {b : Bool} : nonB (.bl b) = some false := eqp rfl
theorem nonB_int {b : Int} : nonB (.int b) = some false := eqp rfl
theorem nonB_str {b : Str} : nonB (.str b) = some false := eqp rfl
theorem nonB_lst {b : List D} : nonB (.lst b) = some false := eqp rfl
theorem nonB_tup {b : List D} : nonB (.tup b) = some false := eqp rfl
theorem nonB_cell {b : Nat} : nonB (.cell b) = some false := eqp rfl
theorem nonB_obj {b : Nat} {fs : List (Str × D)} : nonB (.obj b fs) = some false := eqp rfl
theorem bools_nil : boolsD [] = some [] := eqp rfl
theorem bools_cons {b : Bool} {r : List D} : boolsD (.bl b :: r) = (boolsD r).map (b :: ·) := eqp rfl
theorem ints_nil : intsD [] = some [] := eqp rfl
theorem ints_cons {b : Int} {r : List D} : intsD (.int b :: r) = (intsD r).map (b :: ·) := eqp rfl
theorem eqD_ii {i j : Int} : eqD (.int i) (.int j) = some (decide (i = j)) := eqp rfl
theorem eqD_bb {i j : Bool} : eqD (.bl i) (.bl j) = some (decide (i = j)) := eqp rfl
theorem eqD_ss {i j : Str} : eqD (.str i) (.str j) = some (decide (i = j)) := eqp rfl
theorem eqD_nn : eqD .non .non = some true := eqp rfl
theorem eqD_ni {j : Int} : eqD .non (.int j) = some false := eqp rfl
theorem eqD_in {j : Int} : eqD (.int j) .non = some false := eqp rfl
theorem eqD_nb {j : Bool} : eqD .non (.bl j) = some false := eqp rfl
theorem eqD_bn {j : Bool} : eqD (.bl j) .non = some false := eqp rfl
theorem eqD_ns {j : Str} : eqD .non (.str j) = some false := eqp rfl
theorem eqD_sn {j : Str} : eqD (.str j) .non = some false := eqp rfl
theorem eqD_is {i : Int} {j : Str} : eqD (.int i) (.str j) = some false := eqp rfl
theorem eqD_si {i : Str} {j : Int} : eqD (.str i) (.int j) = some false := eqp rfl
theorem eqD_bs {i : Bool} {j : Str} : eqD (.bl i) (.str j) = some false := eqp rfl
theorem eqD_sb {i : Str} {j : Bool} : eqD (.str i) (.bl j) = some false := eqp rfl
theorem tag_non : tagD .non μ = some (.ty "NoneType") := eqp rfl
theorem tag_bl {b : Bool} : tagD (.bl b) μ = some (.ty "bool") := eqp rfl
theorem tag_int {b : Int} : tagD (.int b) μ = some (.ty "int") := eqp rfl
theorem tag_str {b : Str} : tagD (.str b) μ = some (.ty "str") := eqp rfl
theorem tag_lst {b : List D} : tagD (.lst b) μ = some (.ty "list") := eqp rfl
theorem tag_tup {b : List D} : tagD (.tup b) μ = some (.ty "tuple") := eqp rfl
theorem tag_obj {c : Nat} {fs : List (Str × D)} : tagD (.obj c fs) μ = some (.cls c) := eqp rfl
theorem bindP_nm {i : Nat} {d : D} {env : Env} : bindP (.nm i) d env = some (env.set i (.v d)) := by unfold bindP; rfl
theorem bindP_tp {ps : Pats} {ds : List D} {env : Env} : bindP (.tp ps) (.tup ds) env = bindPs ps ds env := by unfold bindP; rfl
theorem bindP_tl {ps : Pats} {ds : List D} {env : Env} : bindP (.tp ps) (.lst ds) env = bindPs ps ds env := by unfold bindP; rfl
theorem bindPs_nil {env : Env} : bindPs .nil [] env = some env := by unfold bindPs; rfl
theorem bindPs_cons {p : Pat} {r : Pats} {d : D} {ds : List D} {env : Env} : bindPs (.cons p r) (d :: ds) env = (bindP p d env).bind fun e => bindPs r ds e := by
  rw [bindPs]; cases bindP p d env <;> rfl
theorem okMul_r {i j : Int} (h : -(2 ^ 64) < j) (h2 : j < 2 ^ 64) : okMul i j = true := by unfold okMul; simp only [Bool.or_eq_true, decide_eq_true_eq]; omega
end
end EG
namespace EG
open PySem L2
section
variable {α β : Type} {μ : Mu} {E : PX} {env : Env} {K : SO → Mu → Prop} {Q : D → Mu → Prop}
/-! rules of instances -/
def memF (flds : List (Nat × Str)) (c : Nat) (f : Str) : Bool := flds.any fun p => p.1 == c && decide (p.2 = f)
theorem memF_iff {flds : List (Nat × Str)} {c : Nat} {f : Str} : memF flds c f = true ↔ (c, f) ∈ flds := by
  unfold memF
  rw [List.any_eq_true]
  constructor
  · rintro ⟨⟨a, b⟩, h1, h2⟩
    simp only [Bool.and_eq_true, beq_iff_eq, decide_eq_true_eq] at h2
    obtain ⟨rfl, rfl⟩ := h2
    exact h1
  · exact fun h => ⟨(c, f), h, by simp⟩
theorem no_op {p : α → Prop} : False = Op (none : Option α) p := propext ⟨fun h => False.elim h, fun ⟨_, h, _⟩ => (nomatch h)⟩
theorem wp_get {flds : List (Nat × Str)} {f : Str} {g : Env → EM D} : Wp (fGet flds f g env) μ Q E = Wp (g env) μ (fun d μ1 => Op (objD d μ1) fun p => memF flds p.1 f = true ∧ Op (p.2.lookup f) fun v => Q v μ1) E := by
  unfold fGet; rw [wp_bind]; refine wp_ext fun d μ1 => ?_
  unfold Wp getD
  cases objD d μ1 with
  | none => exact no_op
  | some p =>
    obtain ⟨c, fs⟩ := p
    rw [op_some]
    simp only
    by_cases h : (c, f) ∈ flds
    · simp only [h, if_true, memF_iff.mpr h, true_and]
      cases fs.lookup f with
      | none => exact no_op
      | some v => rw [op_some]
    · have : memF flds c f = false := by
        cases q : memF flds c f with
        | false => rfl
        | true => exact absurd (memF_iff.mp q) h
      simp [h, this]
theorem wp_meth {c n : Nat} {m : Str} {F : Fn} {dds : List D} {go : Env → EM D} {ga : Env → EM (List D)} : Wp (fMeth c m n F dds go ga env) μ Q E = Wp (go env) μ (fun d μ1 => isObj c m d μ1 = true ∧ Wp (ga env) μ1 (fun ds μ2 => ds.length + dds.length + 1 = n ∧ Wf F (d :: (ds ++ dds)) μ2 Q E) E) E := by
  unfold fMeth; rw [wp_bind]; refine wp_ext fun d μ1 => ?_
  have e : Wp (ga env) μ1 (fun ds μ2 => ds.length + dds.length + 1 = n ∧ Wf F (d :: (ds ++ dds)) μ2 Q E) E = Wp (bindE (ga env) fun ds => guardE (decide (ds.length + dds.length + 1 = n)) (F (d :: (ds ++ dds)))) μ1 Q E := by
    rw [wp_bind]
    refine wp_ext fun ds μ2 => ?_
    rw [wp_guard, decide_eq_true_eq]; rfl
  rw [e]
  unfold Wp
  dsimp only
  cases h : isObj c m d μ1 with
  | false => simp only [h, false_and, Bool.false_eq_true]
  | true => simp only [h, true_and]
theorem wp_noX' {m : EM D} : Wp (fProp.noX' m) μ Q E = Wp m μ Q fun _ _ _ => False := by
  unfold Wp fProp.noX'
  cases m μ with
  | none => rfl
  | some r => obtain ⟨o, μ'⟩ := r; cases o <;> rfl
theorem wp_prop {c n : Nat} {F : Fn} {dds : List D} {go : Env → EM D} : Wp (fProp c n F dds go env) μ Q E = Wp (go env) μ (fun d μ1 => Op (objD d μ1) fun p => (p.1 = c ∧ dds.length + 1 = n) ∧ Wf F (d :: dds) μ1 Q (fun _ _ _ => False)) E := by
  unfold fProp; rw [wp_bind]; refine wp_ext fun d μ1 => ?_
  have e : Wf F (d :: dds) μ1 Q (fun _ _ _ => False) = Wp (fProp.noX' (F (d :: dds))) μ1 Q E := wp_noX'.symm
  rw [e]
  unfold Wp
  dsimp only
  cases h : objD d μ1 with
  | none => exact no_op
  | some p =>
    obtain ⟨c', fs⟩ := p
    rw [op_some]
    dsimp only
    by_cases h1 : c' = c
    · by_cases h2 : dds.length + 1 = n
      · simp only [h1, h2, beq_self_eq_true, decide_true, Bool.and_self, true_and]
      · simp only [h1, h2, beq_self_eq_true, decide_false, Bool.and_false, and_false, false_and]
    · have : (c' == c) = false := beq_eq_false_iff_ne.mpr h1
      simp only [h1, this, Bool.false_and, false_and]
theorem ws_setF {flds : List (Nat × Str)} {f : Str} {o e : Env → EM D} : Wr (fSetF flds f o e) env μ K = Wp (e env) μ (fun d μ1 => Wp (o env) μ1 (fun x μ2 => Op (cellO x μ2) fun p => (memF flds p.2.1 f = true ∧ p.2.2.length < 1000) ∧ K (.nx env) (μ2.set p.1 (.obj p.2.1 (putD f d p.2.2)))) (exS env K)) (exS env K) := by
  unfold fSetF; rw [ws_lift]; refine wp_ext fun d μ1 => ?_; rw [ws_lift]; refine wp_ext fun x μ2 => ?_
  unfold Wr
  cases h : cellO x μ2 with
  | none => simp only [h]; exact no_op
  | some p =>
    obtain ⟨n, c, fs⟩ := p
    rw [op_some]
    simp only [h]
    by_cases h1 : (c, f) ∈ flds ∧ fs.length < 1000
    · simp only [h1, and_self, if_true, memF_iff.mpr h1.1, true_and]
    · have : ¬ (memF flds c f = true ∧ fs.length < 1000) := fun z => h1 ⟨memF_iff.mp z.1, z.2⟩
      simp only [h1, if_false, this, false_and]
end
end EG
namespace EG
open PySem L2
section
variable {α β : Type} {μ : Mu} {E : PX} {env : Env} {K : SO → Mu → Prop} {Q : D → Mu → Prop}
def endMk (fz : Bool) (μ μ' : Mu) (Q : D → Mu → Prop) (_u : Tk Q := ⟨⟩) : Prop := match fz with
  | false => Q (.cell μ.length) μ'
  | true => ∃ c fs, μ' = μ ++ [.obj c fs] ∧ belF μ.length fs = true ∧ Q (.obj c fs) μ
theorem mkF_wish {fz : Bool} {r : Option (Out D × Mu)} : Wp (fun _ => mkF fz r μ) μ Q E = Wp (fun _ => r) μ (fun v μ' => v = .non ∧ endMk fz μ μ' Q) E := by
  unfold Wp
  dsimp only
  cases r with
  | none => rfl
  | some r =>
    obtain ⟨o, μ'⟩ := r
    cases o with
    | exc c fs => rfl
    | ok v =>
      cases v <;> first
        | (show False = _; exact propext ⟨fun h => False.elim h, fun h => nomatch h.1⟩)
        | skip
      cases fz with
      | false => exact propext ⟨fun h => ⟨rfl, h⟩, fun h => h.2⟩
      | true =>
        unfold mkF endMk
        dsimp only
        cases q : μ'.getLast? with
        | none =>
          simp only [q]
          refine propext ⟨fun h => False.elim h, fun ⟨_, c, fs, h, _⟩ => ?_⟩
          rw [h] at q
          simp at q
        | some x =>
          cases x with
          | obj c fs =>
            simp only [q]
            by_cases h : μ' = μ ++ [.obj c fs] ∧ belF μ.length fs = true
            · rw [if_pos h]
              exact propext ⟨fun z => ⟨trivial, c, fs, h.1, h.2, z⟩, fun ⟨_, c', fs', h1, h2, z⟩ => by
                have := h.1.symm.trans h1
                simp at this
                obtain ⟨rfl, rfl⟩ := this
                exact z⟩
            · rw [if_neg h]
              refine propext ⟨fun z => False.elim z, fun ⟨_, c', fs', h1, h2, z⟩ => ?_⟩
              rw [h1] at q
              simp at q
              obtain ⟨rfl, rfl⟩ := q
              exact h ⟨h1, h2⟩
          | lst xs => exact propext ⟨fun h => by simp only [q] at h, fun ⟨_, c, fs, h1, _⟩ => by rw [h1] at q; simp at q⟩
          | dK xs => exact propext ⟨fun h => by simp only [q] at h, fun ⟨_, c, fs, h1, _⟩ => by rw [h1] at q; simp at q⟩
          | dT xs => exact propext ⟨fun h => by simp only [q] at h, fun ⟨_, c, fs, h1, _⟩ => by rw [h1] at q; simp at q⟩
          | cap xs => exact propext ⟨fun h => by simp only [q] at h, fun ⟨_, c, fs, h1, _⟩ => by rw [h1] at q; simp at q⟩
          | tbl xs ys => exact propext ⟨fun h => by simp only [q] at h, fun ⟨_, c, fs, h1, _⟩ => by rw [h1] at q; simp at q⟩
/-- C(..): args by the new one -/
def Wmk (fz : Bool) (c : Nat) (F : Fn) (args : D → List D) (N : Nat) (μ : Mu) (Q : D → Mu → Prop) (E : PX) (_u : Tk (F, Q, E) := ⟨⟩) : Prop :=
  (args (.cell μ.length)).length = N ∧ Wf F (args (.cell μ.length)) (μ ++ [.obj c []]) (fun v μ' => v = .non ∧ endMk fz μ μ' Q) E
theorem wp_mk {fz : Bool} {c n m N : Nat} {F : Fn} {arr : List D → List D → List D} {ga gk : Env → EM (List D)} : Wp (fMk fz c n m N F arr ga gk env) μ Q E = Wp (ga env) μ (fun ds μ1 => Wp (gk env) μ1 (fun es μ2 => (ds.length = n ∧ es.length = m) ∧ Wmk fz c F (fun y => arr (y :: ds) es) N μ2 Q E) E) E := by
  unfold fMk; rw [wp_bind]; refine wp_ext fun ds μ1 => ?_; rw [wp_bind]; refine wp_ext fun es μ2 => ?_
  have e : Wf F (arr (.cell μ2.length :: ds) es) (μ2 ++ [.obj c []]) (fun v μ' => v = .non ∧ endMk fz μ2 μ' Q) E = Wp (fun _ => mkF fz (F (arr (.cell μ2.length :: ds) es) (μ2 ++ [.obj c []])) μ2) μ2 Q E := by rw [mkF_wish]; rfl
  unfold Wmk
  rw [e]
  unfold Wp mkE'
  dsimp only
  by_cases h : ds.length = n ∧ es.length = m
  · by_cases h2 : (arr (.cell μ2.length :: ds) es).length = N
    · simp only [h, h2, and_self, decide_true, true_and]
    · simp only [h, h2, and_false, decide_false, false_and]
  · have : ¬ (ds.length = n ∧ es.length = m ∧ (arr (.cell μ2.length :: ds) es).length = N) := fun z => h ⟨z.1, z.2.1⟩
    simp only [this, h, decide_false, false_and]
end
end EG
namespace EG
open PySem L2
section
variable {α β : Type} {μ : Mu} {E : PX} {env : Env} {K : SO → Mu → Prop} {Q : D → Mu → Prop}
theorem wp_own {c : Nat} {F : Fn} {T : Isi} {fa fb : Env → EM D} : Wp (fOwn c F T fa fb env) μ Q E = Wp (fa env) μ (fun d μ1 => Wp (fb env) μ1 (fun e μ2 => Op (objD d μ2) fun p => Op (tagD e μ2) fun t => (p.1 = c ∧ rightB T c t = true) ∧ Wf F [d, e] μ2 (fun v μ' => Op (asB v) fun b => Q (.bl b) μ') (fun _ _ _ => False)) E) E := by
  unfold fOwn; rw [wp_bind]; refine wp_ext fun d μ1 => ?_; rw [wp_bind]; refine wp_ext fun e μ2 => ?_
  have key : Wf F [d, e] μ2 (fun v μ' => Op (asB v) fun b => Q (.bl b) μ') (fun _ _ _ => False) = Wp (fun μ => match F [d, e] μ with
      | some (.ok (.bl b), μ') => some (.ok (.bl b), μ')
      | _ => (none : Option (Out D × Mu))) μ2 Q E := by
    unfold Wf Wp
    dsimp only
    cases F [d, e] μ2 with
    | none => rfl
    | some r =>
      obtain ⟨o, μ'⟩ := r
      cases o with
      | exc c fs => rfl
      | ok v => cases v <;> first | exact no_op.symm | (show Op (some _) _ = _; rw [op_some])
  rw [key]
  unfold Wp
  dsimp only
  cases h1 : objD d μ2 with
  | none => exact no_op
  | some p =>
    obtain ⟨c', fs⟩ := p
    rw [op_some]
    cases tagD e μ2 with
    | none => exact no_op
    | some t =>
      rw [op_some]
      dsimp only
      by_cases h3 : c' = c
      · cases h4 : rightB T c t with
        | true =>
          simp only [h3, beq_self_eq_true, Bool.and_self, true_and]
          all_goals cases F [d, e] μ2 with
          | none => rfl
          | some r =>
            obtain ⟨o, μ'⟩ := r
            cases o with
            | exc c fs => rfl
            | ok v => cases v <;> rfl
        | false => simp only [h3, beq_self_eq_true, Bool.true_and, Bool.false_eq_true, and_false, false_and]
      · have : (c' == c) = false := beq_eq_false_iff_ne.mpr h3
        simp only [this, h3, Bool.false_and, false_and]
end
end EG
namespace EG
open PySem L2
section
variable {α β : Type} {μ : Mu} {E : PX} {env : Env} {K : SO → Mu → Prop} {Q : D → Mu → Prop} {QS : Str → Mu → Prop}
theorem wp_kd {n nk N : Nat} {F : Fn} {arr : List D → List D → List D} {fs : List D} {ga gk : Env → EM (List D)} : Wp (fKD n nk N F arr fs ga gk env) μ Q E = Wp (ga env) μ (fun ds μ1 => Wp (gk env) μ1 (fun es μ2 => (ds.length = n ∧ es.length = nk ∧ (arr (fs ++ ds) es).length = N) ∧ Wf F (arr (fs ++ ds) es) μ2 Q E) E) E := by
  unfold fKD; rw [wp_bind]; refine wp_ext fun ds μ1 => ?_; rw [wp_bind]; refine wp_ext fun es μ2 => ?_; rw [wp_guard, decide_eq_true_eq]; rfl
theorem wp_methK {c : Nat} {m : Str} {n nk N : Nat} {F : Fn} {arr : List D → List D → List D} {go : Env → EM D} {ga gk : Env → EM (List D)} : Wp (fMethK c m n nk N F arr go ga gk env) μ Q E = Wp (go env) μ (fun d μ0 => isObj c m d μ0 = true ∧ Wp (ga env) μ0 (fun ds μ1 => Wp (gk env) μ1 (fun es μ2 => (ds.length = n ∧ es.length = nk ∧ (arr (d :: ds) es).length = N) ∧ Wf F (arr (d :: ds) es) μ2 Q E) E) E) E := by
  unfold fMethK; rw [wp_bind]; refine wp_ext fun d μ1 => ?_
  have e := wp_kd (n := n) (nk := nk) (N := N) (F := F) (arr := arr) (fs := [d]) (ga := ga) (gk := gk) (env := env) (μ := μ1) (Q := Q) (E := E)
  simp only [List.cons_append, List.nil_append] at e
  rw [← e]
  unfold Wp
  dsimp only
  cases h : isObj c m d μ1 with
  | false => simp only [h, false_and, Bool.false_eq_true]
  | true => simp only [h, true_and]
theorem wp_ownNe {c : Nat} {F : Fn} {T : Isi} {fa fb : Env → EM D} : Wp (fOwnNe c F T fa fb env) μ Q E = Wp (fa env) μ (fun d μ1 => Wp (fb env) μ1 (fun e μ2 => Op (objD d μ2) fun p => Op (tagD e μ2) fun t => (p.1 = c ∧ rightB T c t = true) ∧ Wf F [d, e] μ2 (fun v μ' => Op (asB v) fun b => Q (.bl (!b)) μ') (fun _ _ _ => False)) E) E := by
  unfold fOwnNe; rw [wp_bind]; refine wp_ext fun d μ1 => ?_; rw [wp_bind]; refine wp_ext fun e μ2 => ?_
  have key : Wf F [d, e] μ2 (fun v μ' => Op (asB v) fun b => Q (.bl (!b)) μ') (fun _ _ _ => False) = Wp (fun μ => match F [d, e] μ with
      | some (.ok (.bl b), μ') => some (.ok (.bl (!b)), μ')
      | _ => (none : Option (Out D × Mu))) μ2 Q E := by
    unfold Wf Wp
    dsimp only
    cases F [d, e] μ2 with
    | none => rfl
    | some r =>
      obtain ⟨o, μ'⟩ := r
      cases o with
      | exc c fs => rfl
      | ok v => cases v <;> first | exact no_op.symm | (show Op (some _) _ = _; rw [op_some])
  rw [key]
  unfold Wp
  dsimp only
  cases h1 : objD d μ2 with
  | none => exact no_op
  | some p =>
    obtain ⟨c', fs⟩ := p
    rw [op_some]
    cases tagD e μ2 with
    | none => exact no_op
    | some t =>
      rw [op_some]
      dsimp only
      by_cases h3 : c' = c
      · cases h4 : rightB T c t with
        | true =>
          simp only [h3, beq_self_eq_true, Bool.and_self, true_and]
          all_goals cases F [d, e] μ2 with
          | none => rfl
          | some r =>
            obtain ⟨o, μ'⟩ := r
            cases o with
            | exc c fs => rfl
            | ok v => cases v <;> rfl
        | false => simp only [h3, beq_self_eq_true, Bool.true_and, Bool.false_eq_true, and_false, false_and]
      · have : (c' == c) = false := beq_eq_false_iff_ne.mpr h3
        simp only [this, h3, Bool.false_and, false_and]
theorem wp_own1 {c : Nat} {o : Own1} {F : Fn} {d : D} : Wp (own1D c o F [d]) μ Q E = Op (objD d μ) fun p => p.1 = c ∧ Wf F [d] μ (fun v μ' => o.okD v = true ∧ Q v μ') (fun _ _ _ => False) := by
  unfold Wp own1D
  dsimp only
  cases h1 : objD d μ with
  | none => exact no_op
  | some p =>
    obtain ⟨c', fs⟩ := p
    rw [op_some]
    dsimp only
    by_cases h3 : c' = c
    · simp only [h3, beq_self_eq_true, true_and]
      unfold Wf Wp
      cases F [d] μ with
      | none => rfl
      | some r =>
        obtain ⟨oo, μ'⟩ := r
        cases oo with
        | exc c fs => rfl
        | ok v =>
          dsimp only
          cases h : o.okD v with
          | false => simp only [h, Bool.false_eq_true, false_and]
          | true => simp only [h, true_and]
    · have : (c' == c) = false := beq_eq_false_iff_ne.mpr h3
      simp only [this, h3, false_and]
theorem wp_ownT {c : Nat} {F : Fn} {fa : Env → EM D} {Q : Bool → Mu → Prop} : Wp (fOwnT c F fa env) μ Q E = Wp (fa env) μ (fun d μ1 => Wp (own1D c .bool F [d]) μ1 (fun v μ2 => Op (asB v) fun b => Q b μ2) E) E := by
  unfold fOwnT; rw [wp_t, wp_bind]
theorem wp_fstr {g : Env → Str → EM Str} : Wp (fFstr g env) μ Q E = Wp (g env Str.empty) μ (fun out μ1 => out.length ≤ big ∧ Q (.str out) μ1) E := by
  unfold fFstr; rw [wp_bind]; refine wp_ext fun out μ1 => ?_; rw [wp_guard, decide_eq_true_eq]; rfl
theorem wp_fFn {acc : Str} : Wp (fFn env acc) μ QS E = QS acc μ := eqp rfl
theorem wp_fFc {f : Env → EM D} {g : Env → Str → EM Str} {acc : Str} : Wp (fFc f g env acc) μ QS E = Wp (f env) μ (fun d μ1 => Wp (fmtD d) μ1 (fun y μ2 => (acc ++ y).length ≤ big ∧ Wp (g env (acc ++ y)) μ2 QS E) E) E := by
  unfold fFc; rw [wp_bind]; refine wp_ext fun d μ1 => ?_; rw [wp_bind]; refine wp_ext fun y μ2 => ?_; rw [wp_guard, decide_eq_true_eq]
theorem wp_fmtS {s : Str} : Wp (fmtD (.str s)) μ QS E = QS s μ := eqp rfl
theorem wp_fmtI {i : Int} : Wp (fmtD (.int i)) μ QS E = (i.natAbs.log2 < 1920 ∧ QS (toString i : String) μ) := by
  unfold fmtD; rw [wp_guard, decide_eq_true_eq]; rfl
theorem kok_len {i : Int} : Own1.okD .len (.int i) = decide (0 ≤ i ∧ i < 2 ^ 62) := eqp rfl
theorem kok_repr {i : Str} : Own1.okD .repr (.str i) = true := eqp rfl
theorem kok_bool {i : Bool} : Own1.okD .bool (.bl i) = true := eqp rfl
/-! == of plain data -/
theorem kly_non : layD .non = some .none := eqp rfl
theorem kly_bl {b : Bool} : layD (.bl b) = some (.bool b) := eqp rfl
theorem kly_int {i : Int} : layD (.int i) = some (.int i) := eqp rfl
theorem kly_lst {xs : List D} : layD (.lst xs) = (layAll xs).map .list := by unfold layD; cases layAll xs <;> rfl
theorem kly_tup {xs : List D} : layD (.tup xs) = (layAll xs).map .tuple := by rw [layD]; cases layAll xs <;> rfl
theorem kly_nil : layAll [] = some [] := by unfold layAll; rfl
theorem kly_cons {d : D} {r : List D} : layAll (d :: r) = (layD d).bind fun p => (layAll r).map fun ps => p :: ps := by
  rw [layAll]; cases layD d <;> cases layAll r <;> rfl
end
end EG
namespace EG
open PySem L2
mutual
/-- == of plain data -/
def eqB : D → D → Bool
  | .non, e => (match e with | .non => true | _ => false)
  | .bl a, e => (match e with | .bl b => a == b | .int j => (if a then 1 else 0) == j | _ => false)
  | .int i, e => (match e with | .int j => decide (i = j) | .bl b => i == (if b then 1 else 0) | _ => false)
  | .str x, e => (match e with | .str y => decide (x = y) | _ => false)
  | .lst xs, e => (match e with | .lst ys => eqBs xs ys | _ => false)
  | .tup xs, e => (match e with | .tup ys => eqBs xs ys | _ => false)
  | _, _ => false
def eqBs : List D → List D → Bool
  | [], e => (match e with | [] => true | _ :: _ => false)
  | x :: xs, e => (match e with | [] => false | y :: ys => eqB x y && eqBs xs ys)
end
/-- plain data, at most n deep -/
def plainB : Nat → D → Bool
  | _, .non => true
  | _, .bl _ => true
  | _, .int _ => true
  | _, .str s => PyData.strOk s
  | n + 1, .lst xs => xs.all (plainB n)
  | n + 1, .tup xs => xs.all (plainB n)
  | _, _ => false
theorem layAll_of {n : Nat} (ih : ∀ d, plainB n d = true → ∃ p, layD d = some p ∧ p.depth ≤ n) : ∀ xs : List D, xs.all (plainB n) = true → ∃ ps, layAll xs = some ps ∧ PyData.depthAll ps ≤ n
  | [], _ => ⟨[], kly_nil, by unfold PyData.depthAll; exact Nat.zero_le _⟩
  | x :: xs, h => by
    rw [List.all_cons, Bool.and_eq_true] at h
    obtain ⟨p, h1, h2⟩ := ih x h.1
    obtain ⟨ps, h3, h4⟩ := layAll_of ih xs h.2
    refine ⟨p :: ps, by rw [kly_cons, h1, h3]; rfl, ?_⟩
    unfold PyData.depthAll
    exact Nat.max_le.mpr ⟨h2, h4⟩
theorem lay_of : ∀ (n : Nat) (d : D), plainB n d = true → ∃ p, layD d = some p ∧ p.depth ≤ n
  | n, .non, _ => ⟨_, kly_non, by unfold PyData.depth; exact Nat.zero_le _⟩
  | n, .bl b, _ => ⟨_, kly_bl, by unfold PyData.depth; exact Nat.zero_le _⟩
  | n, .int b, _ => ⟨_, kly_int, by unfold PyData.depth; exact Nat.zero_le _⟩
  | n, .str s, h => by
    have h : PyData.strOk s = true := by cases n <;> exact h
    exact ⟨.str s, by unfold layD; rw [if_pos h], by unfold PyData.depth; exact Nat.zero_le _⟩
  | 0, .lst xs, h => nomatch h
  | 0, .tup xs, h => nomatch h
  | n + 1, .lst xs, h => by
    obtain ⟨ps, h1, h2⟩ := layAll_of (lay_of n) xs h
    exact ⟨.list ps, by rw [kly_lst, h1]; rfl, by unfold PyData.depth; omega⟩
  | n + 1, .tup xs, h => by
    obtain ⟨ps, h1, h2⟩ := layAll_of (lay_of n) xs h
    exact ⟨.tuple ps, by rw [kly_tup, h1]; rfl, by unfold PyData.depth; omega⟩
  | 0, .obj _ _, h => nomatch h
  | n + 1, .obj _ _, h => nomatch h
  | 0, .cell _, h => nomatch h
  | n + 1, .cell _, h => nomatch h
  | 0, .scr _, h => nomatch h
  | n + 1, .scr _, h => nomatch h
  | 0, .dK _, h => nomatch h
  | n + 1, .dK _, h => nomatch h
  | 0, .dT _, h => nomatch h
  | n + 1, .dT _, h => nomatch h
  | 0, .err _ _, h => nomatch h
  | n + 1, .err _ _, h => nomatch h
  | 0, .clo _ _, h => nomatch h
  | n + 1, .clo _ _, h => nomatch h
  | 0, .cls _, h => nomatch h
  | n + 1, .cls _, h => nomatch h
theorem lay_inv {d : D} {p : PyData} (h : layD d = some p) : (d = .non ∧ p = .none) ∨ (∃ b, d = .bl b ∧ p = .bool b) ∨ (∃ i, d = .int i ∧ p = .int i) ∨ (∃ s, d = .str s ∧ p = .str s) ∨ (∃ xs ps, d = .lst xs ∧ p = .list ps ∧ layAll xs = some ps) ∨ (∃ xs ps, d = .tup xs ∧ p = .tuple ps ∧ layAll xs = some ps) := by
  cases d with
  | non => unfold layD at h; cases h; exact .inl ⟨rfl, rfl⟩
  | bl b => unfold layD at h; cases h; exact .inr (.inl ⟨_, rfl, rfl⟩)
  | int b => unfold layD at h; cases h; exact .inr (.inr (.inl ⟨_, rfl, rfl⟩))
  | str s => unfold layD at h; split at h <;> cases h; exact .inr (.inr (.inr (.inl ⟨_, rfl, rfl⟩)))
  | lst xs =>
    rw [kly_lst] at h
    obtain ⟨ps, h1, rfl⟩ := map_some h
    exact .inr (.inr (.inr (.inr (.inl ⟨_, _, rfl, rfl, h1⟩))))
  | tup xs =>
    rw [kly_tup] at h
    obtain ⟨ps, h1, rfl⟩ := map_some h
    exact .inr (.inr (.inr (.inr (.inr ⟨_, _, rfl, rfl, h1⟩))))
  | _ => unfold layD at h; cases h
theorem lays_inv {d : D} {r : List D} {ps : List PyData} (h : layAll (d :: r) = some ps) : ∃ p qs, ps = p :: qs ∧ layD d = some p ∧ layAll r = some qs := by
  rw [kly_cons] at h
  obtain ⟨p, h1, h2⟩ := Option.bind_eq_some_iff.mp h
  obtain ⟨qs, h3, rfl⟩ := map_some h2
  exact ⟨p, qs, rfl, h1, h3⟩
theorem beq_dec {α : Type} [DecidableEq α] (a b : α) : (a == b) = decide (a = b) := by
  by_cases h : a = b
  · subst h; simp
  · simp [h]
theorem str_beq (x y : Str) : (x == y) = decide (x = y) := by
  by_cases h : x = y
  · subst h; simp
  · simp [h]
mutual
theorem eqv_eq : ∀ (p : PyData) (d e : D) (q : PyData), layD d = some p → layD e = some q → PyData.eqv p q = eqB d e
  | .none, d, e, q, h1, h2 => by
    rcases lay_inv h1 with ⟨rfl, h⟩ | ⟨_, rfl, h⟩ | ⟨_, rfl, h⟩ | ⟨_, rfl, h⟩ | ⟨_, _, rfl, h, _⟩ | ⟨_, _, rfl, h, _⟩ <;> first | (cases h; done) | skip
    rcases lay_inv h2 with ⟨rfl, rfl⟩ | ⟨_, rfl, rfl⟩ | ⟨_, rfl, rfl⟩ | ⟨_, rfl, rfl⟩ | ⟨_, _, rfl, rfl, _⟩ | ⟨_, _, rfl, rfl, _⟩ <;> simp [PyData.eqv, eqB]
  | .bool b, d, e, q, h1, h2 => by
    rcases lay_inv h1 with ⟨rfl, h⟩ | ⟨_, rfl, h⟩ | ⟨_, rfl, h⟩ | ⟨_, rfl, h⟩ | ⟨_, _, rfl, h, _⟩ | ⟨_, _, rfl, h, _⟩ <;> cases h
    rcases lay_inv h2 with ⟨rfl, rfl⟩ | ⟨_, rfl, rfl⟩ | ⟨_, rfl, rfl⟩ | ⟨_, rfl, rfl⟩ | ⟨_, _, rfl, rfl, _⟩ | ⟨_, _, rfl, rfl, _⟩ <;> simp [PyData.eqv, eqB]
  | .int b, d, e, q, h1, h2 => by
    rcases lay_inv h1 with ⟨rfl, h⟩ | ⟨_, rfl, h⟩ | ⟨_, rfl, h⟩ | ⟨_, rfl, h⟩ | ⟨_, _, rfl, h, _⟩ | ⟨_, _, rfl, h, _⟩ <;> cases h
    rcases lay_inv h2 with ⟨rfl, rfl⟩ | ⟨_, rfl, rfl⟩ | ⟨_, rfl, rfl⟩ | ⟨_, rfl, rfl⟩ | ⟨_, _, rfl, rfl, _⟩ | ⟨_, _, rfl, rfl, _⟩ <;> simp [PyData.eqv, eqB, beq_dec]
  | .str b, d, e, q, h1, h2 => by
    rcases lay_inv h1 with ⟨rfl, h⟩ | ⟨_, rfl, h⟩ | ⟨_, rfl, h⟩ | ⟨_, rfl, h⟩ | ⟨_, _, rfl, h, _⟩ | ⟨_, _, rfl, h, _⟩ <;> cases h
    rcases lay_inv h2 with ⟨rfl, rfl⟩ | ⟨_, rfl, rfl⟩ | ⟨_, rfl, rfl⟩ | ⟨_, rfl, rfl⟩ | ⟨_, _, rfl, rfl, _⟩ | ⟨_, _, rfl, rfl, _⟩ <;> simp [PyData.eqv, eqB, str_beq]
  | .list ps, d, e, q, h1, h2 => by
    rcases lay_inv h1 with ⟨rfl, h⟩ | ⟨_, rfl, h⟩ | ⟨_, rfl, h⟩ | ⟨_, rfl, h⟩ | ⟨xs, ps', rfl, h, z⟩ | ⟨_, _, rfl, h, _⟩ <;> cases h
    rcases lay_inv h2 with ⟨rfl, rfl⟩ | ⟨_, rfl, rfl⟩ | ⟨_, rfl, rfl⟩ | ⟨_, rfl, rfl⟩ | ⟨ys, qs, rfl, rfl, z2⟩ | ⟨_, _, rfl, rfl, _⟩ <;> first | (simp [PyData.eqv, eqB]; done) | skip
    unfold PyData.eqv eqB
    exact eqvs_eq ps xs ys qs z z2
  | .tuple ps, d, e, q, h1, h2 => by
    rcases lay_inv h1 with ⟨rfl, h⟩ | ⟨_, rfl, h⟩ | ⟨_, rfl, h⟩ | ⟨_, rfl, h⟩ | ⟨_, _, rfl, h, _⟩ | ⟨xs, ps', rfl, h, z⟩ <;> cases h
    rcases lay_inv h2 with ⟨rfl, rfl⟩ | ⟨_, rfl, rfl⟩ | ⟨_, rfl, rfl⟩ | ⟨_, rfl, rfl⟩ | ⟨_, _, rfl, rfl, _⟩ | ⟨ys, qs, rfl, rfl, z2⟩ <;> first | (simp [PyData.eqv, eqB]; done) | skip
    unfold PyData.eqv eqB
    exact eqvs_eq ps xs ys qs z z2
  | .dict kvs, d, e, q, h1, h2 => by
    rcases lay_inv h1 with ⟨rfl, h⟩ | ⟨_, rfl, h⟩ | ⟨_, rfl, h⟩ | ⟨_, rfl, h⟩ | ⟨_, _, rfl, h, _⟩ | ⟨_, _, rfl, h, _⟩ <;> cases h
theorem eqvs_eq : ∀ (p : List PyData) (d e : List D) (q : List PyData), layAll d = some p → layAll e = some q → PyData.eqvAll p q = eqBs d e
  | [], d, e, q, h1, h2 => by
    cases d with
    | cons x xs => obtain ⟨_, _, h, _⟩ := lays_inv h1; cases h
    | nil =>
      cases e with
      | nil => rw [kly_nil] at h2; cases h2; simp [PyData.eqvAll, eqBs]
      | cons y ys => obtain ⟨_, _, rfl, _⟩ := lays_inv h2; simp [PyData.eqvAll, eqBs]
  | p :: ps, d, e, q, h1, h2 => by
    cases d with
    | nil => rw [kly_nil] at h1; cases h1
    | cons x xs =>
      obtain ⟨_, _, h, a1, a2⟩ := lays_inv h1
      cases h
      cases e with
      | nil => rw [kly_nil] at h2; cases h2; simp [PyData.eqvAll, eqBs]
      | cons y ys =>
        obtain ⟨_, _, rfl, b1, b2⟩ := lays_inv h2
        unfold PyData.eqvAll eqBs
        rw [eqv_eq p x y _ a1 b1, eqvs_eq ps xs ys _ a2 b2]
end
theorem scal_eq {d e : D} {b : Bool} (h : scalD d e = some b) : b = eqB d e := by
  unfold scalD at h
  split at h <;> first
    | (cases h; done)
    | (cases h; simp [eqB, beq_dec])
theorem eqD_plain {d e : D} (h1 : plainB 64 d = true) (h2 : plainB 64 e = true) : eqD d e = some (eqB d e) := by
  unfold eqD
  cases h : scalD d e with
  | some b => rw [scal_eq h]
  | none =>
    obtain ⟨p, l1, d1⟩ := lay_of 64 d h1
    obtain ⟨q, l2, d2⟩ := lay_of 64 e h2
    simp only [l1, l2, d1, d2, and_self, if_true]
    rw [eqv_eq p d e q l1 l2]
theorem eqD_tt {xs ys : List D} (h1 : plainB 64 (.tup xs) = true) (h2 : plainB 64 (.tup ys) = true) : eqD (.tup xs) (.tup ys) = some (eqBs xs ys) := by rw [eqD_plain h1 h2]; simp [eqB]
theorem eqD_ll {xs ys : List D} (h1 : plainB 64 (.lst xs) = true) (h2 : plainB 64 (.lst ys) = true) : eqD (.lst xs) (.lst ys) = some (eqBs xs ys) := by rw [eqD_plain h1 h2]; simp [eqB]
theorem plB_non {n : Nat} : plainB n .non = true := by cases n <;> rfl
theorem plB_bl {n : Nat} {b : Bool} : plainB n (.bl b) = true := by cases n <;> rfl
theorem plB_int {n : Nat} {b : Int} : plainB n (.int b) = true := by cases n <;> rfl
theorem plB_str {n : Nat} {b : Str} : plainB n (.str b) = PyData.strOk b := by cases n <;> rfl
theorem plB_lst {n : Nat} {xs : List D} : plainB (n + 1) (.lst xs) = xs.all (plainB n) := rfl
theorem plB_tup {n : Nat} {xs : List D} : plainB (n + 1) (.tup xs) = xs.all (plainB n) := rfl
theorem eqBs_nn : eqBs [] [] = true := by unfold eqBs; rfl
theorem eqBs_cc {x y : D} {xs ys : List D} : eqBs (x :: xs) (y :: ys) = (eqB x y && eqBs xs ys) := by rw [eqBs]
theorem eqBs_nc {y : D} {ys : List D} : eqBs [] (y :: ys) = false := by unfold eqBs; rfl
theorem eqBs_cn {y : D} {ys : List D} : eqBs (y :: ys) [] = false := by unfold eqBs; rfl
theorem eqB_ii {i j : Int} : eqB (.int i) (.int j) = decide (i = j) := by simp [eqB]
theorem eqB_bb {i j : Bool} : eqB (.bl i) (.bl j) = (i == j) := by simp [eqB]
theorem eqB_ss {i j : Str} : eqB (.str i) (.str j) = decide (i = j) := by simp [eqB]
theorem eqB_nn : eqB .non .non = true := by simp [eqB]
theorem eqB_ll {xs ys : List D} : eqB (.lst xs) (.lst ys) = eqBs xs ys := by simp [eqB]
theorem eqB_tt {xs ys : List D} : eqB (.tup xs) (.tup ys) = eqBs xs ys := by simp [eqB]
theorem eqB_ni {j : Int} : eqB .non (.int j) = false := by simp [eqB]
theorem eqB_in {j : Int} : eqB (.int j) .non = false := by simp [eqB]
theorem eqB_nt {j : List D} : eqB .non (.tup j) = false := by simp [eqB]
theorem eqB_tn {j : List D} : eqB (.tup j) .non = false := by simp [eqB]
theorem eqB_it {i : Int} {j : List D} : eqB (.int i) (.tup j) = false := by simp [eqB]
theorem eqB_ti {i : Int} {j : List D} : eqB (.tup j) (.int i) = false := by simp [eqB]
section
variable {μ : Mu} {E : PX} {Q : D → Mu → Prop}
theorem wp_addT {xs ys : List D} : Wp (addD (.tup xs) (.tup ys)) μ Q E = (xs.length + ys.length ≤ big ∧ Q (.tup (xs ++ ys)) μ) := by
  unfold addD; rw [wp_guard, decide_eq_true_eq]; rfl
theorem wp_addL {xs ys : List D} : Wp (addD (.lst xs) (.lst ys)) μ Q E = (xs.length + ys.length ≤ big ∧ Q (.lst (xs ++ ys)) μ) := by
  unfold addD; rw [wp_guard, decide_eq_true_eq]; rfl
theorem wp_mulL {xs : List D} {k : Int} : Wp (mulD (.lst xs) (.int k)) μ Q E = ((-(2 ^ 63) ≤ k ∧ k < 2 ^ 63 ∧ xs.length * k.toNat ≤ big) ∧ Q (.lst (repL k.toNat xs)) μ) := by
  unfold mulD; rw [wp_guard, decide_eq_true_eq]; rfl
end
end EG
namespace EG
open PySem L2
section
variable {α β : Type} {μ : Mu} {E : PX} {env : Env} {K : SO → Mu → Prop} {Q : D → Mu → Prop} {QL : List D → Mu → Prop}
theorem objD_obj {c : Nat} {fs : List (Str × D)} : objD (.obj c fs) μ = some (c, fs) := eqp rfl
theorem objD_last {c : Nat} {fs : List (Str × D)} : objD (.cell μ.length) (μ ++ [.obj c fs]) = some (c, fs) := by
  have h : (μ ++ [Cell.obj c fs])[μ.length]? = some (.obj c fs) := by simp
  unfold objD
  simp only [h]
theorem cellO_last {c : Nat} {fs : List (Str × D)} : cellO (.cell μ.length) (μ ++ [.obj c fs]) = some (μ.length, c, fs) := by
  have h : (μ ++ [Cell.obj c fs])[μ.length]? = some (.obj c fs) := by simp
  unfold cellO
  simp only [h]
theorem set_last {x y : Cell} : (μ ++ [x]).set μ.length y = μ ++ [y] := by simp
theorem isO_obj {c c' : Nat} {m : Str} {fs : List (Str × D)} : isObj c m (.obj c' fs) μ = (c' == c && (fs.lookup m).isNone) := eqp rfl
theorem isO_last {c c' : Nat} {m : Str} {fs : List (Str × D)} : isObj c m (.cell μ.length) (μ ++ [.obj c' fs]) = (c' == c && (fs.lookup m).isNone) := by unfold isObj; rw [objD_last]
theorem putD_nil {f : Str} {d : D} : putD f d [] = [(f, d)] := eqp rfl
theorem putD_cons {f g : Str} {d x : D} {r : List (Str × D)} : putD f d ((g, x) :: r) = if g = f then (g, d) :: r else (g, x) :: putD f d r := by rw [putD]
theorem lkp_nil {f : Str} : ([] : List (Str × D)).lookup f = none := eqp rfl
theorem lkp_cons {f g : Str} {d : D} {r : List (Str × D)} : ((g, d) :: r).lookup f = if f = g then some d else r.lookup f := by
  rw [List.lookup_cons]
  by_cases h : f = g
  · subst h; simp
  · have : (f == g) = false := by simp [h]
    simp [h, this]
mutual
theorem bel_plain (n : Nat) : ∀ (m : Nat) (d : D), plainB m d = true → bel n d = true
  | _, .non, _ => rfl
  | _, .bl _, _ => rfl
  | _, .int _, _ => rfl
  | _, .str _, _ => rfl
  | m + 1, .lst xs, h => by unfold bel; exact bels_plain n m xs h
  | m + 1, .tup xs, h => by unfold bel; exact bels_plain n m xs h
  | 0, .lst xs, h => nomatch h
  | 0, .tup xs, h => nomatch h
  | 0, .obj _ _, h => nomatch h
  | n + 1, .obj _ _, h => nomatch h
  | 0, .cell _, h => nomatch h
  | n + 1, .cell _, h => nomatch h
  | 0, .scr _, h => nomatch h
  | n + 1, .scr _, h => nomatch h
  | 0, .dK _, h => nomatch h
  | n + 1, .dK _, h => nomatch h
  | 0, .dT _, h => nomatch h
  | n + 1, .dT _, h => nomatch h
  | 0, .err _ _, h => nomatch h
  | n + 1, .err _ _, h => nomatch h
  | 0, .clo _ _, h => nomatch h
  | n + 1, .clo _ _, h => nomatch h
  | 0, .cls _, h => nomatch h
  | n + 1, .cls _, h => nomatch h
theorem bels_plain (n : Nat) : ∀ (m : Nat) (xs : List D), xs.all (plainB m) = true → bels n xs = true
  | _, [], _ => rfl
  | m, x :: xs, h => by
    rw [List.all_cons, Bool.and_eq_true] at h
    unfold bels
    rw [bel_plain n m x h.1, bels_plain n m xs h.2]; rfl
end
theorem belF_nil {n : Nat} : belF n [] = true := eqp rfl
theorem belF_cons {n : Nat} {f : Str} {d : D} {r : List (Str × D)} : belF n ((f, d) :: r) = (bel n d && belF n r) := eqp rfl
/-! comprehensions, element by element -/
def E00 : PX := fun _ _ _ => False
theorem wp_compN {p : Pat} {cond : Env → EM Bool} {elt : Env → EM D} : Wp (compL p cond elt env []) μ QL E = QL [] μ := eqp rfl
theorem wp_compC {p : Pat} {cond : Env → EM Bool} {elt : Env → EM D} {d : D} {r : List D} : Wp (compL p cond elt env (d :: r)) μ QL E = Op (bindP p d env) fun e => Wp (cond e) μ (fun b μ1 => Br b (Wp (elt e) μ1 (fun x μ2 => Wp (compL p cond elt env r) μ2 (fun xs μ3 => QL (x :: xs) μ3) E) E00) (Wp (compL p cond elt env r) μ1 QL E)) E00 := by
  rw [compL]
  cases bindP p d env with
  | none => exact no_op
  | some e =>
    rw [op_some]
    dsimp only
    rw [wp_bind, wp_noX]
    refine wp_ext fun b μ1 => ?_
    cases b with
    | true => rw [br_true, wp_bind, wp_noX]; refine wp_ext fun x μ2 => ?_; rw [wp_bind]; rfl
    | false => rw [br_false]
theorem rng_0 {i : Int} : rangeL i 0 = [] := eqp rfl
theorem rng_1 {i : Int} : rangeL i 1 = [.int i] := by simp [rangeL]
theorem rng_2 {i : Int} : rangeL i 2 = [.int i, .int (i + 1)] := by simp [rangeL, List.range_succ]
theorem rng_3 {i : Int} : rangeL i 3 = [.int i, .int (i + 1), .int (i + 2)] := by simp [rangeL, List.range_succ]
theorem enL_nil {n : Nat} : enumL n [] = [] := eqp rfl
theorem enL_cons {n : Nat} {d : D} {r : List D} : enumL n (d :: r) = .tup [.int (n : Int), d] :: enumL (n + 1) r := by rw [enumL]
theorem zpL_nil {ys : List D} : zipL [] ys = [] := by cases ys <;> rfl
theorem zpL_nilR {xs : List D} : zipL xs [] = [] := by cases xs <;> rfl
theorem zpL_cons {x y : D} {xs ys : List D} : zipL (x :: xs) (y :: ys) = .tup [x, y] :: zipL xs ys := by rw [zipL]
theorem wp_maxL {d : D} : Wp (maxD [d]) μ Q E = Op (seqD d μ) fun xs => Op (intsD xs) fun ns => ns ≠ [] ∧ Q (.int (maxL ns)) μ := by
  unfold maxD
  rw [wp_bind, wp_seqE]; refine op_ext fun xs => ?_
  rw [wp_opt]
  cases intsD xs with
  | none => exact propext ⟨fun ⟨_, h, _⟩ => (nomatch h), fun ⟨_, h, _⟩ => (nomatch h)⟩
  | some ns =>
    cases ns with
    | nil => simp only [op_some]; exact propext ⟨fun ⟨_, h, _⟩ => (nomatch h), fun h => (h.1 rfl).elim⟩
    | cons n ns => simp only [op_some]; exact propext ⟨fun h => ⟨List.cons_ne_nil _ _, h⟩, fun h => h.2⟩
theorem wp_minL {d : D} : Wp (minD [d]) μ Q E = Op (seqD d μ) fun xs => Op (intsD xs) fun ns => ns ≠ [] ∧ Q (.int (minL ns)) μ := by
  unfold minD
  rw [wp_bind, wp_seqE]; refine op_ext fun xs => ?_
  rw [wp_opt]
  cases intsD xs with
  | none => exact propext ⟨fun ⟨_, h, _⟩ => (nomatch h), fun ⟨_, h, _⟩ => (nomatch h)⟩
  | some ns =>
    cases ns with
    | nil => simp only [op_some]; exact propext ⟨fun ⟨_, h, _⟩ => (nomatch h), fun h => (h.1 rfl).elim⟩
    | cons n ns => simp only [op_some]; exact propext ⟨fun h => ⟨List.cons_ne_nil _ _, h⟩, fun h => h.2⟩
theorem maxL_2 {i j : Int} {r : List Int} : maxL (i :: j :: r) = max i (maxL (j :: r)) := eqp rfl
theorem maxL_1 {i : Int} : maxL [i] = i := eqp rfl
theorem minL_2 {i j : Int} {r : List Int} : minL (i :: j :: r) = min i (minL (j :: r)) := eqp rfl
theorem minL_1 {i : Int} : minL [i] = i := eqp rfl
theorem bel_non {n : Nat} : bel n .non = true := eqp rfl
theorem bel_bl {n : Nat} {b : Bool} : bel n (.bl b) = true := eqp rfl
theorem bel_int {n : Nat} {i : Int} : bel n (.int i) = true := eqp rfl
theorem bel_str {n : Nat} {s : Str} : bel n (.str s) = true := eqp rfl
theorem bel_lst {n : Nat} {xs : List D} : bel n (.lst xs) = bels n xs := eqp rfl
theorem bel_tup {n : Nat} {xs : List D} : bel n (.tup xs) = bels n xs := eqp rfl
theorem bel_obj {n c : Nat} {fs : List (Str × D)} : bel n (.obj c fs) = belF n fs := eqp rfl
theorem bels_nil {n : Nat} : bels n [] = true := eqp rfl
theorem bels_cons {n : Nat} {d : D} {r : List D} : bels n (d :: r) = (bel n d && bels n r) := eqp rfl
theorem kst_app0 {s : Str} : Str.empty ++ s = s := by
  obtain ⟨⟨l⟩⟩ := s
  show (⟨#[] ++ ⟨l⟩⟩ : Str) = _
  simp
theorem ctl_hi {xs : List D} {i : Int} : cutL xs none (some i) = if 0 ≤ i then xs.take i.toNat else xs.take (i + (xs.length : Int)).toNat := by
  unfold cutL
  rw [HT.sIx_none, List.drop_zero, Nat.sub_zero]
  by_cases h : 0 ≤ i
  · rw [if_pos h]
    show xs.take (if i < 0 then _ else min i.toNat xs.length) = _
    rw [if_neg (by omega)]
    rw [List.take_eq_take_iff]
    omega
  · rw [if_neg h]
    show xs.take (if i < 0 then _ else _) = _
    rw [if_pos (by omega)]
theorem ctl_lo {xs : List D} {i : Int} : cutL xs (some i) none = if 0 ≤ i then xs.drop i.toNat else xs.drop (i + (xs.length : Int)).toNat := by
  unfold cutL
  rw [HT.sIx_none]
  have e : ∀ k, ((xs.drop k).take (xs.length - k)) = xs.drop k := fun k => List.take_of_length_le (by rw [List.length_drop]; exact Nat.le_refl _)
  rw [e]
  by_cases h : 0 ≤ i
  · rw [if_pos h]
    show xs.drop (if i < 0 then _ else min i.toNat xs.length) = _
    rw [if_neg (by omega)]
    by_cases q : i.toNat ≤ xs.length
    · rw [Nat.min_eq_left q]
    · rw [Nat.min_eq_right (by omega), List.drop_length, List.drop_eq_nil_of_le (by omega)]
  · rw [if_neg h]
    show xs.drop (if i < 0 then _ else _) = _
    rw [if_pos (by omega)]
theorem ctl_no {xs : List D} : cutL xs none none = xs := by
  unfold cutL
  rw [HT.sIx_none, HT.sIx_none, List.drop_zero, Nat.sub_zero, List.take_length]
theorem kst_inj {a b : String} : (Str.ofString a = Str.ofString b) = (a = b) := by
  refine propext ⟨fun h => ?_, fun h => by rw [h]⟩
  rw [PySem.Str.ofString_eq_toList, PySem.Str.ofString_eq_toList] at h
  injection h with h
  have h := (Array.toList_inj).mpr h
  have h : a.toList.map Char.toNat = b.toList.map Char.toNat := h
  have h := List.map_inj_right (f := Char.toNat) (fun x y h => Char.toNat_inj.mp h) |>.mp h
  exact String.toList_inj.mp h
theorem wp_rgI1 {d : D} {QL : List D → Mu → Prop} : Wp (rgI1 d) μ QL E = Op (asI d) fun j => (-(2 ^ 62) ≤ j ∧ j < 2 ^ 62 ∧ j.toNat ≤ big) ∧ QL (rangeL 0 j.toNat) μ := by
  cases d with
  | int j =>
    rw [show asI (.int j) = some j from rfl, op_some]
    show Wp (guardE _ _) _ _ _ = _
    rw [wp_guard, decide_eq_true_eq]; rfl
  | _ => exact no_op
theorem wp_rgI2 {d e : D} {QL : List D → Mu → Prop} : Wp (rgI2 d e) μ QL E = Op (asI d) fun i => Op (asI e) fun j => (-(2 ^ 62) ≤ i ∧ i < 2 ^ 62 ∧ -(2 ^ 62) ≤ j ∧ j < 2 ^ 62 ∧ (j - i).toNat ≤ big) ∧ QL (rangeL i (j - i).toNat) μ := by
  cases d with
  | int i =>
    rw [show asI (.int i) = some i from rfl, op_some]
    cases e with
    | int j =>
      rw [show asI (.int j) = some j from rfl, op_some]
      show Wp (guardE _ _) _ _ _ = _
      rw [wp_guard, decide_eq_true_eq]; rfl
    | _ => exact no_op
  | _ => exact no_op
theorem wp_rg1 {f : Env → EM D} {QL : List D → Mu → Prop} : Wp (fRg1 f env) μ QL E = Wp (f env) μ (fun d μ1 => Op (asI d) fun j => (-(2 ^ 62) ≤ j ∧ j < 2 ^ 62 ∧ j.toNat ≤ big) ∧ QL (rangeL 0 j.toNat) μ1) E := by
  unfold fRg1; rw [wp_bind]; exact wp_ext fun d μ1 => wp_rgI1
theorem wp_rg2 {f g : Env → EM D} {QL : List D → Mu → Prop} : Wp (fRg2 f g env) μ QL E = Wp (f env) μ (fun d μ1 => Wp (g env) μ1 (fun e μ2 => Op (asI d) fun i => Op (asI e) fun j => (-(2 ^ 62) ≤ i ∧ i < 2 ^ 62 ∧ -(2 ^ 62) ≤ j ∧ j < 2 ^ 62 ∧ (j - i).toNat ≤ big) ∧ QL (rangeL i (j - i).toNat) μ2) E) E := by
  unfold fRg2; rw [wp_bind]; refine wp_ext fun d μ1 => ?_; rw [wp_bind]; exact wp_ext fun e μ2 => wp_rgI2
theorem wp_callO {c n : Nat} {F : Fn} {dds : List D} {go : Env → EM D} {ga : Env → EM (List D)} : Wp (fCallO c n F dds go ga env) μ Q E = Wp (go env) μ (fun d μ0 => isObj c "__call__" d μ0 = true ∧ Wp (ga env) μ0 (fun ds μ1 => isObj c "__call__" d μ1 = true ∧ ds.length + dds.length + 1 = n ∧ Wf F (d :: (ds ++ dds)) μ1 Q E) E) E := by
  unfold fCallO; rw [wp_bind]; refine wp_ext fun d μ1 => ?_
  have e : ∀ (μ : Mu), Wp (fun μ' : Mu => match isObj c "__call__" d μ' with
    | true => (bindE (ga env) (fun ds μ' => match isObj c "__call__" d μ' with
      | true => guardE (decide (ds.length + dds.length + 1 = n)) (F (d :: (ds ++ dds))) μ'
      | false => none)) μ'
    | false => none) μ Q E = (isObj c "__call__" d μ = true ∧ Wp (bindE (ga env) (fun ds μ' => match isObj c "__call__" d μ' with
      | true => guardE (decide (ds.length + dds.length + 1 = n)) (F (d :: (ds ++ dds))) μ'
      | false => none)) μ Q E) := fun μ => by
    unfold Wp
    dsimp only
    cases h : isObj c "__call__" d μ with
    | false => simp only [Bool.false_eq_true, false_and]
    | true => simp only [true_and]
  refine (e μ1).trans ?_
  rw [wp_bind]
  refine congrArg _ (wp_ext fun ds μ2 => ?_)
  have e2 : Wp (fun μ' : Mu => match isObj c "__call__" d μ' with
      | true => guardE (decide (ds.length + dds.length + 1 = n)) (F (d :: (ds ++ dds))) μ'
      | false => none) μ2 Q E = (isObj c "__call__" d μ2 = true ∧ Wp (guardE (decide (ds.length + dds.length + 1 = n)) (F (d :: (ds ++ dds)))) μ2 Q E) := by
    unfold Wp
    dsimp only
    cases h : isObj c "__call__" d μ2 with
    | false => simp only [Bool.false_eq_true, false_and]
    | true => simp only [true_and]
  refine e2.trans ?_
  rw [wp_guard, decide_eq_true_eq]
  rfl
theorem kst_beq {a b : String} : (Str.ofString a == Str.ofString b) = decide (a = b) := by
  by_cases h : a = b
  · rw [h, decide_eq_true rfl]; exact beq_self_eq_true _
  · rw [decide_eq_false h]
    exact beq_eq_false_iff_ne.mpr fun z => h (by rw [kst_inj] at z; exact z)
theorem ws_appC {o e : Env → EM D} {K : SO → Mu → Prop} : Wr (fAppC o e) env μ K = Wp (o env) μ (fun x μ1 => Op (cellL x μ1) fun p => Wp (e env) μ1 (fun d μ2 => Op (cellL (.cell p.1) μ2) fun q => q.2.length < big ∧ K (.nx env) (μ2.set p.1 (.lst (q.2 ++ [d])))) (exS env K)) (exS env K) := by
  unfold fAppC; rw [ws_lift]; refine wp_ext fun x μ1 => ?_
  cases x with
  | cell n =>
    unfold cellL
    simp only
    cases h : μ1[n]? with
    | none => unfold Wr; simp only [h]; exact no_op
    | some c =>
      cases c with
      | lst ys =>
        simp only
        rw [op_some]
        refine Eq.trans (b := Wr (liftE e (fun d => fun env μ' => match μ'[n]? with
            | some (.lst xs) => if xs.length < big then some (SO.nx env, μ'.set n (.lst (xs ++ [d]))) else none
            | _ => none)) env μ1 K) (by unfold Wr; simp only [h]; try rfl) ?_
        rw [ws_lift]
        refine wp_ext fun d μ2 => ?_
        unfold Wr
        cases h2 : μ2[n]? with
        | none => simp only [h2]; exact no_op
        | some c2 =>
          cases c2 with
          | lst xs =>
            simp only [h2]
            rw [op_some]
            by_cases hl : xs.length < big
            · simp only [hl, if_true, true_and]
            · simp only [hl, if_false, false_and]
          | _ => simp only [h2]; exact no_op
      | _ => unfold Wr; simp only [h]; exact no_op
  | _ => exact no_op
theorem wp_compZ {vs : List Nat} {p : Pat} {g : Env → EM (List D)} {cond : Env → EM Bool} {elt : Env → EM D} {QL : List D → Mu → Prop} : Wp (fCompZ vs p g cond elt env) μ QL E = Wp (g env) μ (fun ds μ1 => Wp (zipM ds) μ1 (fun q μ2 => Wp (compLM q.1 p cond elt (wipeE env vs) q.2) μ2 QL E) E) E := by
  unfold fCompZ; rw [wp_bind]; refine wp_ext fun ds μ1 => ?_; rw [wp_bind]
theorem wp_zipM {d e : D} {Q : (Mu → Bool) × List D → Mu → Prop} : Wp (zipM [d, e]) μ Q E = Op (seqM d μ) fun p => Op (seqM e μ) fun q => Q (fun μ' => keepM d p.2 μ' && keepM e q.2 μ', zipL p.2 q.2) μ := by
  unfold zipM Wp
  dsimp only
  cases h1 : seqM d μ with
  | none => exact no_op
  | some p =>
    rw [op_some]
    cases h2 : seqM e μ with
    | none => exact no_op
    | some q => rw [op_some]
theorem wp_compLN {chk : Mu → Bool} {p : Pat} {cond : Env → EM Bool} {elt : Env → EM D} {QL : List D → Mu → Prop} : Wp (compLM chk p cond elt env []) μ QL E = (chk μ = true ∧ QL [] μ) := by
  unfold compLM Wp
  dsimp only
  cases chk μ <;> simp
theorem wp_compLC {chk : Mu → Bool} {p : Pat} {cond : Env → EM Bool} {elt : Env → EM D} {d : D} {r : List D} {QL : List D → Mu → Prop} : Wp (compLM chk p cond elt env (d :: r)) μ QL E = (chk μ = true ∧ Op (bindP p d env) fun e => Wp (cond e) μ (fun b μ1 => Br b (Wp (elt e) μ1 (fun x μ2 => Wp (compLM chk p cond elt env r) μ2 (fun xs μ3 => QL (x :: xs) μ3) E) E00) (Wp (compLM chk p cond elt env r) μ1 QL E)) E00) := by
  have e0 : Wp (compLM chk p cond elt env (d :: r)) μ QL E = (chk μ = true ∧ Wp (fun μ => match bindP p d env with
      | none => none
      | some env1 => bindE (noX (cond env1)) (fun b => match b with
        | true => bindE (noX (elt env1)) fun x => bindE (compLM chk p cond elt env r) fun xs => pureE (x :: xs)
        | false => compLM chk p cond elt env r) μ) μ QL E) := by
    unfold Wp
    rw [compLM]
    dsimp only
    cases chk μ with
    | false => simp only [Bool.false_eq_true, false_and]
    | true => simp only [true_and]; try rfl
  rw [e0]
  refine congrArg _ ?_
  cases bindP p d env with
  | none => exact no_op
  | some env1 =>
    rw [op_some]
    refine Eq.trans (b := Wp (bindE (noX (cond env1)) (fun b => match b with
        | true => bindE (noX (elt env1)) fun x => bindE (compLM chk p cond elt env r) fun xs => pureE (x :: xs)
        | false => compLM chk p cond elt env r)) μ QL E) rfl ?_
    rw [wp_bind, wp_noX]
    refine wp_ext fun b μ1 => ?_
    cases b with
    | true => rw [br_true, wp_bind, wp_noX]; refine wp_ext fun x μ2 => ?_; rw [wp_bind]; rfl
    | false => rw [br_false]
theorem seqD_mL {xs : List D} : seqM (.lst xs) μ = some (false, xs) := eqp rfl
theorem seqD_mT {xs : List D} : seqM (.tup xs) μ = some (true, xs) := eqp rfl
theorem seqD_mC {n : Nat} : seqM (.cell n) μ = match μ[n]? with
    | some (.lst xs) => some (false, xs)
    | _ => none := eqp rfl
theorem kst_kL {xs ys : List D} : keepM (.lst xs) ys μ = true := eqp rfl
theorem kst_kT {xs ys : List D} : keepM (.tup xs) ys μ = true := eqp rfl
theorem keep_cell {n : Nat} {xs : List D} (h : μ[n]? = some (.lst xs)) : keepM (.cell n) xs μ = true := by
  unfold keepM
  classical
  exact decide_eq_true h
theorem tag_cellL {n : Nat} {xs : List D} (h : μ[n]? = some (.lst xs)) : tagD (.cell n) μ = some (.ty "list") := by
  unfold tagD
  simp only [h]
end
end EG
namespace EG
open PySem L2
section
variable {α β : Type} {μ : Mu} {E : PX} {env : Env} {Q : D → Mu → Prop} {QL : List D → Mu → Prop} {QP : List D × List D → Mu → Prop}
/-! rules of any call -/
def Wu (F : FU) (ds es : List D) (μ : Mu) (Q : D → Mu → Prop) (E : PX) (_u : Tk (F, Q, E) := ⟨⟩) : Prop := Wp (F ds es) μ Q E
theorem wp_u {nk : Nat} {ga gk : Env → EM (List D)} : Wp (fU nk ga gk env) μ QP E = Wp (ga env) μ (fun ds μ1 => Wp (gk env) μ1 (fun es μ2 => es.length = nk ∧ QP (ds, es) μ2) E) E := by
  unfold fU; rw [wp_bind]; refine wp_ext fun ds μ1 => ?_; rw [wp_bind]; refine wp_ext fun es μ2 => ?_; rw [wp_guard, decide_eq_true_eq, wp_pure]
theorem wp_lone {nk : Nat} {f : Env → EM D} {gk : Env → EM (List D)} : Wp (fLone nk f gk env) μ QP E = Wp (f env) μ (fun d μ1 => Op (dataL d) fun ds => Wp (gk env) μ1 (fun es μ2 => es.length = nk ∧ QP (ds, es) μ2) E) E := by
  unfold fLone; rw [wp_bind]; refine wp_ext fun d μ1 => ?_; rw [wp_bind, wp_opt]; refine op_ext fun ds => ?_; rw [wp_bind]; refine wp_ext fun es μ2 => ?_; rw [wp_guard, decide_eq_true_eq, wp_pure]
theorem wp_star {f : Env → EM D} {g : Env → EM (List D)} : Wp (fStar f g env) μ QL E = Wp (f env) μ (fun d μ1 => Op (seqD d μ1) fun xs => Wp (g env) μ1 (fun ds μ2 => QL (xs ++ ds) μ2) E) E := by
  unfold fStar; rw [wp_bind]; refine wp_ext fun d μ1 => ?_; rw [wp_bind, wp_seqE]; refine op_ext fun ds => ?_; rw [wp_bind]; rfl
theorem dataL_lst {xs : List D} : dataL (.lst xs) = some xs := eqp rfl
theorem dataL_tup {xs : List D} : dataL (.tup xs) = some xs := eqp rfl
theorem wp_cu {F : FU} {fs : List D} {gu : Env → EM (List D × List D)} : Wp (fCU F fs gu env) μ Q E = Wp (gu env) μ (fun p μ1 => Wu F (fs ++ p.1) p.2 μ1 Q E) E := by
  unfold fCU; rw [wp_bind]; rfl
theorem wp_mu {c : Nat} {m : Str} {F : FU} {go : Env → EM D} {gu : Env → EM (List D × List D)} : Wp (fMU c m F go gu env) μ Q E = Wp (go env) μ (fun d μ1 => isObj c m d μ1 = true ∧ Wp (gu env) μ1 (fun p μ2 => Wu F (d :: p.1) p.2 μ2 Q E) E) E := by
  unfold fMU; rw [wp_bind]; refine wp_ext fun d μ1 => ?_
  have e : Wp (gu env) μ1 (fun p μ2 => Wu F (d :: p.1) p.2 μ2 Q E) E = Wp (bindE (gu env) fun p => F (d :: p.1) p.2) μ1 Q E := by
    rw [wp_bind]; rfl
  rw [e]
  unfold Wp
  dsimp only
  cases h : isObj c m d μ1 with
  | false => simp only [h, false_and, Bool.false_eq_true]
  | true => simp only [h, true_and]
def Wmu (fz : Bool) (c : Nat) (F : FU) (ds es : List D) (μ : Mu) (Q : D → Mu → Prop) (E : PX) (_u : Tk (F, Q, E) := ⟨⟩) : Prop :=
  Wu F (.cell μ.length :: ds) es (μ ++ [.obj c []]) (fun v μ' => v = .non ∧ endMk fz μ μ' Q) E
theorem wp_mkU {fz : Bool} {c : Nat} {F : FU} {ds es : List D} : Wp (mkU fz c F ds es) μ Q E = Wmu fz c F ds es μ Q E := by
  have e : Wmu fz c F ds es μ Q E = Wp (fun _ => mkF fz (F (.cell μ.length :: ds) es (μ ++ [.obj c []])) μ) μ Q E := by rw [mkF_wish]; rfl
  rw [e]; rfl
theorem wp_mku {fz : Bool} {c : Nat} {F : FU} {gu : Env → EM (List D × List D)} : Wp (fMkU fz c F gu env) μ Q E = Wp (gu env) μ (fun p μ1 => Wmu fz c F p.1 p.2 μ1 Q E) E := by
  unfold fMkU; rw [wp_bind]; refine wp_ext fun p μ1 => ?_; rw [wp_mkU]
theorem wp_lmu {fz : Bool} {c : Nat} {F : FU} {go : Env → EM D} {gu : Env → EM (List D × List D)} : Wp (fLmU fz c F go gu env) μ Q E = Wp (go env) μ (fun d μ1 => isCls c d = true ∧ Wp (gu env) μ1 (fun p μ2 => Wmu fz c F p.1 p.2 μ2 Q E) E) E := by
  unfold fLmU; rw [wp_bind]; refine wp_ext fun d μ1 => ?_; rw [wp_guard, wp_bind]
  congr 1
  refine wp_ext fun p μ2 => ?_; rw [wp_mkU]
theorem isCls_eq {c c' : Nat} : isCls c (.cls c') = (c' == c) := eqp rfl
theorem wu_F {n N : Nat} {F : Fn} {arr : List D → List D → List D} {ds es : List D} : Wu (uF n N F arr) ds es μ Q E = ((ds.length = n ∧ (arr ds es).length = N) ∧ Wf F (arr ds es) μ Q E) := by
  unfold Wu uF; rw [wp_guard, decide_eq_true_eq]; rfl
theorem wu_S {np m : Nat} {F : Fn} {arr : List D → List D → List D} {ds es : List D} : Wu (uS np m F arr) ds es μ Q E = ((np ≤ ds.length ∧ (ds.drop np).length ≤ big ∧ (arr (ds.take np) es).length = m) ∧ Wf F (arr (ds.take np) es ++ [.tup (ds.drop np)]) μ Q E) := by
  unfold Wu uS; rw [wp_guard, decide_eq_true_eq]; rfl
end
section
variable {μ : Mu} {env : Env} {K : SO → Mu → Prop}
/-! a loop over enumerate(a), a maybe a cell -/
noncomputable def liteM (p : Pat) (body : SM) (ds : List D) : SM := liftE (fun _ => enumM ds) fun q => loopFM q.1 p body q.2
def WlM (p : Pat) (body : SM) (ds : List D) (env : Env) (μ : Mu) (K : SO → Mu → Prop) (_u : Tk (body, K) := ⟨⟩) : Prop := Wr (liteM p body ds) env μ K
theorem ws_forM {p : Pat} {g : Env → EM (List D)} {body : SM} : Wr (fForM p g body) env μ K = Wp (g env) μ (fun ds μ1 => WlM p body ds env μ1 K) (exS env K) := by
  unfold fForM WlM liteM
  rw [ws_lift, wp_bind]
  refine wp_ext fun ds μ1 => ?_
  rw [ws_lift]
theorem loopFM_true {chk : Mu → Bool} {p : Pat} {body : SM} (h : ∀ μ, chk μ = true) : ∀ (ds : List D), loopFM chk p body ds = loopF p body ds
  | [] => by funext env μ; unfold loopFM loopF; rw [h]
  | d :: r => by
    funext env μ
    unfold loopFM loopF
    rw [h, loopFM_true h r]
    all_goals rfl
theorem wfm_lst {p : Pat} {body : SM} {xs : List D} : WlM p body [.lst xs] env μ K = Wl p body (enumL 0 xs) env μ K := by
  have e : WlM p body [.lst xs] env μ K = Wr (loopFM (fun μ' => keepM (.lst xs) xs μ') p body (enumL 0 xs)) env μ K := rfl
  have h : ∀ μ' : Mu, (fun μ' => keepM (.lst xs) xs μ') μ' = true := fun _ => rfl
  rw [e, loopFM_true h]
  rfl
theorem wfm_tup {p : Pat} {body : SM} {xs : List D} : WlM p body [.tup xs] env μ K = Wl p body (enumL 0 xs) env μ K := by
  have e : WlM p body [.tup xs] env μ K = Wr (loopFM (fun μ' => keepM (.tup xs) xs μ') p body (enumL 0 xs)) env μ K := rfl
  have h : ∀ μ' : Mu, (fun μ' => keepM (.tup xs) xs μ') μ' = true := fun _ => rfl
  rw [e, loopFM_true h]
  rfl
end
end EG
namespace EG
open PySem L2
section
variable {α : Type} {μ : Mu} {E : PX} {env : Env} {Q : D → Mu → Prop} {K : SO → Mu → Prop}
/-! rules of exceptions -/
def rlen : Option Str → Nat
  | none => 0
  | some _ => 1
theorem xq_rl0 : rlen none = 0 := eqp rfl
theorem xq_rl1 {f : Str} : rlen (some f) = 1 := eqp rfl
theorem xq_raise {g : GX} {f : Env → EM (List D)} : Wr (fRaise g f) env μ K = Wp (f env) μ (fun ds μ1 => ds.length = rlen g.fld ∧ K (.exc g.cls (exD g.code g.fld ds) env) μ1) (exS env K) := by
  have er : rlen g.fld = (if g.fld.isSome then 1 else 0) := by cases g.fld <;> rfl
  rw [er]
  unfold fRaise
  rw [ws_lift]
  refine wp_ext fun ds μ1 => ?_
  unfold Wr
  cases h : decide (ds.length = (if g.fld.isSome then 1 else 0)) with
  | true => simp only [h, of_decide_eq_true h, true_and]
  | false => simp only [h, of_decide_eq_false h, false_and]
theorem xq_exD0 {c : Str} {ds : List D} : exD c none ds = [(("code" : Str), D.str c)] := eqp rfl
theorem xq_exD1 {c f : Str} {d : D} : exD c (some f) [d] = [(f, d), (("code" : Str), D.str c)] := eqp rfl
theorem xq_exS {c : Nat} {fs : List (Str × D)} : exS env K c fs μ = K (.exc c fs env) μ := eqp rfl
theorem xq_retS {c : Nat} {fs : List (Str × D)} : retS Q E (.exc c fs env) μ = E c fs μ := eqp rfl
theorem xq_thn {G : SM} {c : Nat} {fs : List (Str × D)} : thn G K (.exc c fs env) μ = K (.exc c fs env) μ := eqp rfl
/-- behind a try's handler -/
def endK (i : Nat) (K : SO → Mu → Prop) : SO → Mu → Prop
  | .nx e, μ => K (.nx (e.set i .no)) μ
  | .rt d, μ => K (.rt d) μ
  | .br e, μ => K (.br (e.set i .no)) μ
  | .ct e, μ => K (.ct (e.set i .no)) μ
  | .exc _ _ _, _ => False
/-- behind a try's body -/
def tryK (i : Nat) (ok : Nat → Bool) (G : SM) (K : SO → Mu → Prop) : SO → Mu → Prop
  | .exc c fs e, μ => ok c = true ∧ Wr G (e.set i (.v (.err c fs))) μ (endK i K)
  | o, μ => K o μ
theorem xq_try {F G : SM} {i : Nat} {ok : Nat → Bool} : Wr (fTry F i ok G) env μ K = Wr F env μ (tryK i ok G K) := by
  unfold Wr fTry
  cases h : F env μ with
  | none => rfl
  | some r =>
    obtain ⟨o, μ'⟩ := r
    cases o with
    | exc c fs e =>
      show (match (match ok c with
        | true => endTry i (G (e.set i (.v (.err c fs))) μ')
        | false => none) with
        | some (o, μ') => K o μ'
        | none => False) = _
      unfold tryK Wr
      cases hk : ok c with
      | false => simp [hk]
      | true =>
        cases z : G (e.set i (.v (.err c fs))) μ' with
        | none => simp [endTry, z, hk]
        | some r => obtain ⟨o, μ2⟩ := r; cases o <;> simp [endTry, z, endK, hk]
    | _ => rfl
theorem xq_tk_nx {i : Nat} {ok : Nat → Bool} {G : SM} {e : Env} : tryK i ok G K (.nx e) μ = K (.nx e) μ := eqp rfl
theorem xq_tk_rt {i : Nat} {ok : Nat → Bool} {G : SM} {d : D} : tryK i ok G K (.rt d) μ = K (.rt d) μ := eqp rfl
theorem xq_tk_br {i : Nat} {ok : Nat → Bool} {G : SM} {e : Env} : tryK i ok G K (.br e) μ = K (.br e) μ := eqp rfl
theorem xq_tk_ct {i : Nat} {ok : Nat → Bool} {G : SM} {e : Env} : tryK i ok G K (.ct e) μ = K (.ct e) μ := eqp rfl
theorem xq_tk_exc {i : Nat} {ok : Nat → Bool} {G : SM} {c : Nat} {fs : List (Str × D)} {e : Env} : tryK i ok G K (.exc c fs e) μ = (ok c = true ∧ Wr G (e.set i (.v (.err c fs))) μ (endK i K)) := eqp rfl
theorem xq_ek_nx {i : Nat} {e : Env} : endK i K (.nx e) μ = K (.nx (e.set i .no)) μ := eqp rfl
theorem xq_ek_rt {i : Nat} {d : D} : endK i K (.rt d) μ = K (.rt d) μ := eqp rfl
/-- a field of an exception -/
def xfD (T : Xtab) (f : Str) : D → Option D
  | .err c fs => (match T.contains (c, f) with
    | true => fs.lookup f
    | false => none)
  | _ => none
theorem xq_xf {T : Xtab} {f : Str} {g : Env → EM D} : Wp (fXf T f g env) μ Q E = Wp (g env) μ (fun d μ1 => Op (xfD T f d) fun e => Q e μ1) E := by
  unfold fXf
  rw [wp_bind]
  refine wp_ext fun d μ1 => ?_
  cases d with
  | err c fs =>
    simp only [xfD]
    rw [wp_guard]
    cases T.contains (c, f) with
    | true => simp only [true_and]; exact wp_opt
    | false => exact propext ⟨fun h => (nomatch h.1), fun ⟨_, h, _⟩ => (nomatch h)⟩
  | _ => exact propext ⟨fun h => False.elim h, fun ⟨_, h, _⟩ => (nomatch h)⟩
def memX (T : Xtab) (c : Nat) (f : Str) : Bool := T.contains (c, f)
theorem xq_xfD {T : Xtab} {f : Str} {c : Nat} {fs : List (Str × D)} (h : memX T c f = true) : xfD T f (.err c fs) = fs.lookup f := by
  have h : T.contains (c, f) = true := h
  simp only [xfD, h]
theorem xq_callQ {n : Nat} {F : Fn} {g : Env → EM (List D)} : Wp (fCallQ n F g env) μ Q E = Wp (g env) μ (fun ds μ1 => ds.length = n ∧ Wf F ds μ1 Q E) E := by
  unfold fCallQ
  rw [wp_bind]
  refine wp_ext fun ds μ1 => ?_
  rw [wp_guard, decide_eq_true_eq]; rfl
/-! the bag behind the lent cells and the table -/
theorem seqD_cell2 {c0 c1 : Cell} {xs : List D} : seqD (.cell 2) (c0 :: c1 :: .lst xs :: μ) = some xs := eqp rfl
theorem lstD_cell2 {c0 c1 : Cell} {xs : List D} : lstD (.cell 2) (c0 :: c1 :: .lst xs :: μ) = some xs := eqp rfl
theorem cellL_2 {c0 c1 : Cell} {xs : List D} : cellL (.cell 2) (c0 :: c1 :: .lst xs :: μ) = some (2, xs) := eqp rfl
theorem seqD_cell3 {c0 c1 c2 : Cell} {xs : List D} : seqD (.cell 3) (c0 :: c1 :: c2 :: .lst xs :: μ) = some xs := eqp rfl
theorem lstD_cell3 {c0 c1 c2 : Cell} {xs : List D} : lstD (.cell 3) (c0 :: c1 :: c2 :: .lst xs :: μ) = some xs := eqp rfl
theorem cellL_3 {c0 c1 c2 : Cell} {xs : List D} : cellL (.cell 3) (c0 :: c1 :: c2 :: .lst xs :: μ) = some (3, xs) := eqp rfl
theorem seqD_cell4 {c0 c1 c2 c3 : Cell} {xs : List D} : seqD (.cell 4) (c0 :: c1 :: c2 :: c3 :: .lst xs :: μ) = some xs := eqp rfl
theorem lstD_cell4 {c0 c1 c2 c3 : Cell} {xs : List D} : lstD (.cell 4) (c0 :: c1 :: c2 :: c3 :: .lst xs :: μ) = some xs := eqp rfl
theorem cellL_4 {c0 c1 c2 c3 : Cell} {xs : List D} : cellL (.cell 4) (c0 :: c1 :: c2 :: c3 :: .lst xs :: μ) = some (4, xs) := eqp rfl
theorem seqD_cell5 {c0 c1 c2 c3 c4 : Cell} {xs : List D} : seqD (.cell 5) (c0 :: c1 :: c2 :: c3 :: c4 :: .lst xs :: μ) = some xs := eqp rfl
theorem lstD_cell5 {c0 c1 c2 c3 c4 : Cell} {xs : List D} : lstD (.cell 5) (c0 :: c1 :: c2 :: c3 :: c4 :: .lst xs :: μ) = some xs := eqp rfl
theorem cellL_5 {c0 c1 c2 c3 c4 : Cell} {xs : List D} : cellL (.cell 5) (c0 :: c1 :: c2 :: c3 :: c4 :: .lst xs :: μ) = some (5, xs) := eqp rfl
/-! a text among texts -/
theorem xq_inS_nil {x : Str} : inL (.str x) [] = some false := eqp rfl
theorem xq_inS_cons {x y : Str} {r : List D} : inL (.str x) (.str y :: r) = (inL (.str x) r).map fun b => decide (y = x) || b := by
  unfold inL
  cases h : r.all flatD with
  | true =>
    have e : (y == x) = decide (y = x) := by
      by_cases z : y = x
      · subst z; simp
      · rw [decide_eq_false z]; exact beq_eq_false_iff_ne.mpr z
    rw [← e]
    simp [flatD, h, eqF]
  | false => simp [flatD, h]
/-! rules of closures -/
def cloS : Option Slot → Option (Nat × List (Str × Addr))
  | some (.v (.clo n cl)) => some (n, cl)
  | _ => none
def capM (μ : Mu) (cl : List (Str × Addr)) : Option (List (Str × D)) := match μ[0]? with
  | some (Cell.cap (some (cl', ds))) => (match decide (cl = cl') with
    | true => some ds
    | false => none)
  | _ => none
theorem xq_cloS {n : Nat} {cl : List (Str × Addr)} : cloS (some (.v (.clo n cl))) = some (n, cl) := eqp rfl
theorem xq_capM {cl : List (Str × Addr)} {ds : List (Str × D)} : capM (.cap (some (cl, ds)) :: μ) cl = some ds := by
  unfold capM
  simp only [List.getElem?_cons_zero, decide_true]
theorem xq_act {LF : Nat → List (Str × D) → EM D} {i : Nat} : Wp (fAct LF i env) μ Q E = Op (cloS env[i]?) fun p => Op (capM μ p.2) fun ds => Wp (LF p.1 ds) μ Q E := by
  have no : ∀ {p : Nat × List (Str × Addr) → Prop}, Op (none : Option (Nat × List (Str × Addr))) p = False := fun {p} => propext ⟨fun ⟨_, h, _⟩ => (nomatch h), fun h => False.elim h⟩
  have no2 : ∀ {p : List (Str × D) → Prop}, Op (none : Option (List (Str × D))) p = False := fun {p} => propext ⟨fun ⟨_, h, _⟩ => (nomatch h), fun h => False.elim h⟩
  cases he : env[i]? with
  | none => simp only [fAct, he, cloS, no]; rfl
  | some sl =>
    cases sl with
    | no => simp only [fAct, he, cloS, no]; rfl
    | own c => simp only [fAct, he, cloS, no]; rfl
    | v d =>
      cases d with
      | clo n cl =>
        simp only [cloS, op_some]
        unfold Wp capM
        simp only [fAct, he]
        cases h0 : μ[0]? with
        | none => simp only [no2]
        | some z =>
          cases z with
          | cap o =>
            cases o with
            | none => simp only [no2]
            | some p =>
              obtain ⟨cl', ds⟩ := p
              simp only
              cases decide (cl = cl') with
              | true => simp only [op_some]
              | false => simp only [no2]
          | _ => simp only [no2]
      | _ => simp only [fAct, he, cloS, no]; rfl
theorem xq_lam {n : Nat} {cl : List (Str × Addr)} {t : Nat} {P : Addr} {q : Str} : Wp (fLam n cl t P q env) μ Q E = (μ[t]? = some (.tbl P q) ∧ Q (.clo n cl) μ) := by
  unfold Wp
  cases h0 : μ[t]? with
  | none => simp only [fLam, h0, reduceCtorEq, false_and]
  | some z =>
    cases z with
    | tbl P' q' =>
      simp only [fLam, h0]
      cases hd : decide (P' = P) && decide (q' = q) with
      | true =>
        simp only [Bool.and_eq_true, decide_eq_true_eq] at hd
        obtain ⟨rfl, rfl⟩ := hd
        simp only [true_and]
      | false =>
        have : ¬ (P' = P ∧ q' = q) := fun ⟨a, b⟩ => by subst a b; simp at hd
        simp only [Option.some.injEq, Cell.tbl.injEq, this, false_and]
    | _ => simp only [fLam, h0, Option.some.injEq, reduceCtorEq, false_and]
theorem xq_lam1 {n : Nat} {cl : List (Str × Addr)} {P : Addr} {q : Str} {c : Cell} : Wp (fLam n cl 1 P q env) (c :: .tbl P q :: μ) Q E = Q (.clo n cl) (c :: .tbl P q :: μ) := by
  rw [xq_lam]
  exact propext ⟨fun h => h.2, fun h => ⟨rfl, h⟩⟩
theorem xq_lam2 {n : Nat} {cl : List (Str × Addr)} {P : Addr} {q : Str} {c0 c1 : Cell} : Wp (fLam n cl 2 P q env) (c0 :: c1 :: .tbl P q :: μ) Q E = Q (.clo n cl) (c0 :: c1 :: .tbl P q :: μ) := by
  rw [xq_lam]
  exact propext ⟨fun h => h.2, fun h => ⟨rfl, h⟩⟩
theorem xq_lam3 {n : Nat} {cl : List (Str × Addr)} {P : Addr} {q : Str} {c0 c1 c2 : Cell} : Wp (fLam n cl 3 P q env) (c0 :: c1 :: c2 :: .tbl P q :: μ) Q E = Q (.clo n cl) (c0 :: c1 :: c2 :: .tbl P q :: μ) := by
  rw [xq_lam]
  exact propext ⟨fun h => h.2, fun h => ⟨rfl, h⟩⟩
theorem xq_lam4 {n : Nat} {cl : List (Str × Addr)} {P : Addr} {q : Str} {c0 c1 c2 c3 : Cell} : Wp (fLam n cl 4 P q env) (c0 :: c1 :: c2 :: c3 :: .tbl P q :: μ) Q E = Q (.clo n cl) (c0 :: c1 :: c2 :: c3 :: .tbl P q :: μ) := by
  rw [xq_lam]
  exact propext ⟨fun h => h.2, fun h => ⟨rfl, h⟩⟩
theorem xq_lf {ls : List LamI} {n : Nat} {ds : List (Str × D)} : Wp (lamLF ls n ds) μ Q E = Op ls[n]? fun l => Wp (lamF l.N l.pn (ev l.Γ l.e).e ds) μ Q E := by
  unfold lamLF
  cases ls[n]? with
  | none => exact propext ⟨fun h => False.elim h, fun ⟨_, h, _⟩ => (nomatch h)⟩
  | some l => rw [op_some]
theorem xq_lamF {N pn : List Str} {fe : Env → EM D} {ds : List (Str × D)} {z : Cell} : Wp (lamF N pn fe ds) (z :: μ) Q E = Wp (fe (envL N pn ds)) (.cap none :: μ) (fun d μ' => Q d (μ'.set 0 z)) (fun c fs μ' => E c fs (μ'.set 0 z)) := by
  unfold Wp lamF
  simp only [List.getElem?_cons_zero, List.set_cons_zero]
  cases fe (envL N pn ds) (.cap none :: μ) with
  | none => rfl
  | some r => obtain ⟨o, μ'⟩ := r; cases o <;> rfl
theorem xq_lend {cl : List (Str × Addr)} {ds : List (Str × D)} {m : EM D} : Wp (lend cl ds m) (.cap none :: μ) Q E = Wp m (.cap (some (cl, ds)) :: μ) (fun d μ' => Q d (μ'.set 0 (.cap none))) (fun _ _ _ => False) := by
  unfold Wp lend
  simp only [List.getElem?_cons_zero, List.set_cons_zero]
  cases m (.cap (some (cl, ds)) :: μ) with
  | none => rfl
  | some r => obtain ⟨o, μ'⟩ := r; cases o <;> rfl
theorem xq_callZ {n : Nat} {F : Fn} {cl : List (Str × Addr)} {caps : Caps} {g : Env → EM (List D)} : Wp (fCallZ n F cl caps g env) μ Q E = Wp (g env) μ (fun ds μ1 => ds.length = n ∧ Wp (lend cl (capsOf caps env) (F ds)) μ1 Q E) E := by
  unfold fCallZ
  rw [wp_bind]
  refine wp_ext fun ds μ1 => ?_
  rw [wp_guard, decide_eq_true_eq]
/-- F lent: the wish of a call behind lend -/
def Wz (F : Fn) (cl : List (Str × Addr)) (cs : List (Str × D)) (ds : List D) (μ : Mu) (Q : D → Mu → Prop) (_u : Tk (F, Q) := ⟨⟩) : Prop := Wf F ds (.cap (some (cl, cs)) :: μ) (fun d μ' => Q d (μ'.set 0 (.cap none))) (fun _ _ _ => False)
theorem xq_lendF {cl : List (Str × Addr)} {cs : List (Str × D)} {F : Fn} {ds : List D} : Wp (lend cl cs (F ds)) (.cap none :: μ) Q E = Wz F cl cs ds μ Q := xq_lend
theorem xq_caps_nil : capsOf [] env = [] := eqp rfl
theorem xq_caps {y : Str} {i : Nat} {r : Caps} : capsOf ((y, i) :: r) env = (match env[i]? with
  | some (.v d) => (y, d) :: capsOf r env
  | _ => capsOf r env) := by
  unfold capsOf
  rw [List.filterMap_cons]
  cases h : env[i]? with
  | none => simp only [h]
  | some sl => cases sl <;> simp only [h]
theorem xq_envL_nil {pn : List Str} {ds : List (Str × D)} : envL [] pn ds = [] := eqp rfl
theorem xq_envL {y : Str} {N pn : List Str} {ds : List (Str × D)} : envL (y :: N) pn ds = slotL pn ds y :: envL N pn ds := eqp rfl
theorem xq_slotL {y : Str} {pn : List Str} {ds : List (Str × D)} : slotL pn ds y = (match pn.contains y with
  | true => .v (.int 0)
  | false => (match ds.lookup y with
    | some d => .v d
    | none => .no)) := eqp rfl
/-! x in o; comprehensions with two clauses; two names at once, the second an own list -/
theorem xq_par2o {i j : Nat} {f : Env → EM D} {g : Env → EM (List D)} : Wr (fPar2o i j f g) env μ K = Wp (f env) μ (fun d μ1 => Wp (g env) μ1 (fun xs μ2 => K (.nx ((env.set i (.v d)).set j (.own (.lst xs)))) μ2) (exS env K)) (exS env K) := by
  unfold fPar2o; rw [ws_lift]; unfold fCmb2; rw [wp_bind]; refine wp_ext fun d μ1 => ?_; rw [wp_bind]; refine wp_ext fun xs μ2 => ?_; rw [wp_pure]; rfl
theorem xq_inPL {x : D} {ys : List D} : Wp (inPD x (.lst ys)) μ Q E = Op (inPL x ys) fun b => Q (.bl b) μ := by
  show Wp (optE ((inPL x ys).map .bl)) μ Q E = _
  rw [wp_opt]
  cases inPL x ys with
  | none => exact propext ⟨fun ⟨_, h, _⟩ => (nomatch h), fun ⟨_, h, _⟩ => (nomatch h)⟩
  | some b => rw [Option.map_some, op_some, op_some]
theorem xq_notInPL {x : D} {ys : List D} : Wp (notInPD x (.lst ys)) μ Q E = Op (inPL x ys) fun b => Q (.bl (!b)) μ := by
  show Wp (optE ((inPL x ys).map fun b => .bl (!b))) μ Q E = _
  rw [wp_opt]
  cases inPL x ys with
  | none => exact propext ⟨fun ⟨_, h, _⟩ => (nomatch h), fun ⟨_, h, _⟩ => (nomatch h)⟩
  | some b => rw [Option.map_some, op_some, op_some]
theorem xq_clearC {o : Env → EM D} : Wr (fClearC o) env μ K = Wp (o env) μ (fun x μ1 => Op (cellL x μ1) fun p => K (.nx env) (μ1.set p.1 (.lst []))) (exS env K) := by
  have no : ∀ {α : Type} {p : α → Prop}, False = Op (none : Option α) p := fun {α p} => propext ⟨fun h => False.elim h, fun ⟨_, h, _⟩ => (nomatch h)⟩
  unfold fClearC; rw [ws_lift]; refine wp_ext fun x μ1 => ?_
  cases x with
  | cell n =>
    unfold cellL
    simp only
    cases h : μ1[n]? with
    | none => unfold Wr; simp only [h]; exact no
    | some c =>
      cases c with
      | lst ys =>
        simp only
        rw [op_some]
        unfold Wr
        simp only [h]
      | _ => unfold Wr; simp only [h]; exact no
  | _ => exact no
def ownTO : Option Slot → Option (List (List Key × D))
  | some (.own (.dT xs)) => some xs
  | _ => none
theorem oTO_some {o : Option Slot} {kvs : List (List Key × D)} (h : ownTO o = some kvs) : o = some (.own (.dT kvs)) := by
  unfold ownTO at h
  split at h
  · cases h; rfl
  · cases h
theorem xq_inT {neg : Bool} {n : Nat} {fa : Env → EM D} : Wp (fInT neg n fa env) μ Q E = Wp (fa env) μ (fun d μ1 => Op (ownTO env[n]?) fun kvs => Op (tkD d) fun ks => Q (.bl (neg != hasK kvs ks)) μ1) E := by
  unfold fInT
  rw [wp_bind]; refine wp_ext fun d μ1 => ?_
  have no : ∀ {α : Type} {p : α → Prop}, False = Op (none : Option α) p := fun {α p} => propext ⟨fun h => False.elim h, fun ⟨_, h, _⟩ => (nomatch h)⟩
  cases h : ownTO env[n]? with
  | none =>
    have z : inTC neg n env d μ1 = none := by
      unfold inTC
      split
      · rename_i kvs ks e1 e2
        rw [e1] at h
        cases h
      · rfl
    unfold Wp
    rw [z]
    exact no
  | some kvs =>
    have e := oTO_some h
    rw [op_some]
    unfold Wp inTC
    simp only [e]
    cases q : tkD d with
    | none => simp only; exact no
    | some ks => rw [op_some]
theorem xq_newT {i : Nat} : Wr (fNewT i) env μ K = K (.nx (env.set i (.own (.dT [])))) μ := rfl
theorem xq_putT {n : Nat} {i e : Env → EM D} : Wr (fPutT n i e) env μ K = Wp (e env) μ (fun d μ1 => Op (ownTO env[n]?) fun kvs => Wp (i env) μ1 (fun y μ2 => Op (tkI y) fun ks => kvs.length < big ∧ K (.nx (env.set n (.own (.dT (putT kvs ks d))))) μ2) (exS env K)) (exS env K) := by
  have no : ∀ {α : Type} {p : α → Prop}, False = Op (none : Option α) p := fun {α p} => propext ⟨fun h => False.elim h, fun ⟨_, h, _⟩ => (nomatch h)⟩
  unfold fPutT; rw [ws_lift]; refine wp_ext fun d μ1 => ?_
  cases h : ownTO env[n]? with
  | none =>
    have z : ownT n (fun kvs => liftE i fun y => putS n kvs d y) env μ1 = none := by
      unfold ownT
      split
      · rename_i kvs e1
        rw [e1] at h
        cases h
      · rfl
    unfold Wr
    rw [z]
    exact no
  | some kvs =>
    have e := oTO_some h
    rw [op_some]
    have z : Wr (ownT n fun kvs => liftE i fun y => putS n kvs d y) env μ1 K = Wr (liftE i fun y => putS n kvs d y) env μ1 K := by
      unfold Wr ownT
      simp only [e]
    rw [z, ws_lift]
    refine wp_ext fun y μ2 => ?_
    unfold Wr putS
    cases q : tkI y with
    | none => simp only; exact no
    | some ks => rw [op_some]; by_cases hl : kvs.length < big <;> simp [hl]
theorem xq_ins {n : Nat} {fi fe : Env → EM D} : Wr (fIns n fi fe) env μ K = Op (ownO env[n]?) fun xs => Wp (fi env) μ (fun di μ1 => Wp (fe env) μ1 (fun d μ2 => Op (asI di) fun i => xs.length < big ∧ 0 ≤ i ∧ i < 2 ^ 63 ∧ K (.nx (env.set n (.own (.lst (xs.take i.toNat ++ d :: xs.drop i.toNat))))) μ2) (exS env K)) (exS env K) := by
  have no : ∀ {α : Type} {p : α → Prop}, False = Op (none : Option α) p := fun {α p} => propext ⟨fun h => False.elim h, fun ⟨_, h, _⟩ => (nomatch h)⟩
  unfold fIns; rw [ws_ownL]; refine op_ext fun xs => ?_; rw [ws_lift]; refine wp_ext fun di μ1 => ?_; rw [ws_lift]; refine wp_ext fun d μ2 => ?_
  cases di with
  | int i =>
    show _ = Op (some i) _
    rw [op_some]
    unfold Wr
    dsimp only
    by_cases h : xs.length < big ∧ 0 ≤ i ∧ i < 2 ^ 63
    · rw [if_pos h]
      exact propext ⟨fun z => ⟨h.1, h.2.1, h.2.2, z⟩, fun z => z.2.2.2⟩
    · rw [if_neg h]
      exact propext ⟨fun z => z.elim, fun z => (h ⟨z.1, z.2.1, z.2.2.1⟩).elim⟩
  | _ => exact no
theorem xq_mulT {xs : List D} {k : Int} {Q : D → Mu → Prop} : Wp (mulD (.tup xs) (.int k)) μ Q E = ((0 < xs.length ∧ 1 ≤ k ∧ k ≤ 1000 ∧ xs.length ≤ 1000) ∧ Q (.tup (repL k.toNat xs)) μ) := by
  have z : mulD (.tup xs) (.int k) = guardE (decide (0 < xs.length ∧ 1 ≤ k ∧ k ≤ 1000 ∧ xs.length ≤ 1000)) (pureE (.tup (repL k.toNat xs))) := rfl
  rw [z, wp_guard, decide_eq_true_eq]; rfl
theorem xq_rev {f : Env → EM D} {Q : List D → Mu → Prop} : Wp (fRev f env) μ Q E = Wp (f env) μ (fun d μ1 => Wp (lstE d) μ1 (fun xs μ2 => Q xs.reverse μ2) E) E := by
  unfold fRev; rw [wp_bind]; refine wp_ext fun d μ1 => ?_; unfold revL; rw [wp_bind]; rfl
theorem xq_zip3 {d e f : D} {Q : List D → Mu → Prop} : Wp (zip3D [d, e, f]) μ Q E = Op (seqI d) fun p => Op (seqI e) fun q => Op (seqI f) fun r => Q (zip3L p.2 q.2 r.2) μ := by
  have no : ∀ {α : Type} {p : α → Prop}, False = Op (none : Option α) p := fun {α p} => propext ⟨fun h => False.elim h, fun ⟨_, h, _⟩ => (nomatch h)⟩
  show Wp (optE ((seqI d).bind fun p => (seqI e).bind fun q => (seqI f).map fun r => zip3L p.2 q.2 r.2)) μ Q E = _
  rw [wp_opt]
  cases seqI d with
  | none => exact no.symm.trans no
  | some p =>
    rw [op_some]
    cases seqI e with
    | none => exact no.symm.trans no
    | some q =>
      rw [op_some]
      cases seqI f with
      | none => exact no.symm.trans no
      | some r => rw [op_some]; exact op_some
theorem kst_rep1 {d : D} : repL 1 [d] = [d] := eqp rfl
theorem kst_rep2 {d : D} : repL 2 [d] = [d, d] := eqp rfl
theorem kst_rep3 {d : D} : repL 3 [d] = [d, d, d] := eqp rfl
theorem kst_rep4 {d : D} : repL 4 [d] = [d, d, d, d] := eqp rfl
theorem kst_seqL {xs : List D} : seqI (.lst xs) = some (false, xs) := eqp rfl
theorem kst_seqT {xs : List D} : seqI (.tup xs) = some (true, xs) := eqp rfl
theorem zpL_3nil {ys zs : List D} : zip3L [] ys zs = [] := by cases ys <;> cases zs <;> rfl
theorem zpL_3cons {x y z : D} {xs ys zs : List D} : zip3L (x :: xs) (y :: ys) (z :: zs) = .tup [x, y, z] :: zip3L xs ys zs := by rw [zip3L]
theorem xq_ownOp {c : Nat} {F : Fn} {fa fb : Env → EM D} {Q : D → Mu → Prop} : Wp (fOwnOp c F fa fb env) μ Q E = Wp (fa env) μ (fun d μ1 => Wp (fb env) μ1 (fun e μ2 => Op (objD d μ2) fun p => p.1 = c ∧ Op (objD e μ2) fun q => q.1 = c ∧ Wf F [d, e] μ2 Q E) E) E := by
  have no : ∀ {α : Type} {p : α → Prop}, False = Op (none : Option α) p := fun {α p} => propext ⟨fun h => False.elim h, fun ⟨_, h, _⟩ => (nomatch h)⟩
  unfold fOwnOp
  rw [wp_bind]; refine wp_ext fun d μ1 => ?_; rw [wp_bind]; refine wp_ext fun e μ2 => ?_
  unfold Wf Wp opC
  cases h : objD d μ2 with
  | none => simp only [h]; exact no
  | some p =>
    obtain ⟨c', fs⟩ := p
    rw [op_some]
    simp only [h]
    cases hc : c' == c with
    | false =>
      have hn : ¬ c' = c := fun z => by rw [z] at hc; simp at hc
      simp only [hn, false_and]
    | true =>
      cases beq_iff_eq.mp hc
      simp only [true_and]
      cases h2 : objD e μ2 with
      | none => simp only [h2]; exact no
      | some p2 =>
        obtain ⟨c2, fs2⟩ := p2
        rw [op_some]
        simp only [h2]
        cases hc2 : c2 == c with
        | false =>
          have hn : ¬ c2 = c := fun z => by rw [z] at hc2; simp at hc2
          simp only [hn, false_and]
        | true =>
          cases beq_iff_eq.mp hc2
          simp only [true_and]
theorem xq_ownIn {neg : Bool} {c : Nat} {F : Fn} {fa fb : Env → EM D} : Wp (fOwnIn neg c F fa fb env) μ Q E = Wp (fa env) μ (fun d μ1 => Wp (fb env) μ1 (fun e μ2 => Op (objD e μ2) fun p => p.1 = c ∧ Wf F [e, d] μ2 (fun v μ' => ∃ b, v = .bl b ∧ Q (.bl (neg != b)) μ') (fun _ _ _ => False)) E) E := by
  unfold fOwnIn
  rw [wp_bind]; refine wp_ext fun d μ1 => ?_; rw [wp_bind]; refine wp_ext fun e μ2 => ?_
  have no : ∀ {α : Type} {p : α → Prop}, False = Op (none : Option α) p := fun {α p} => propext ⟨fun h => False.elim h, fun ⟨_, h, _⟩ => (nomatch h)⟩
  unfold Wp inC
  cases h : objD e μ2 with
  | none => simp only [h]; exact no
  | some p =>
    obtain ⟨c', fs⟩ := p
    rw [op_some]
    simp only [h]
    cases hc : c' == c with
    | false =>
      have hn : ¬ c' = c := fun z => by rw [z] at hc; simp at hc
      simp only [hn, false_and]
    | true =>
      have hy : c' = c := beq_iff_eq.mp hc
      simp only [hy, true_and]
      unfold Wf Wp
      cases z : F [e, d] μ2 with
      | none => rfl
      | some r =>
        obtain ⟨o, μ'⟩ := r
        cases o with
        | exc _ _ => rfl
        | ok v =>
          cases v <;> first
            | (simp; done)
            | (simp only; exact propext ⟨fun h => ⟨_, rfl, h⟩, fun ⟨b, e, h⟩ => by cases e; exact h⟩)
theorem xq_comp2 {vs : List Nat} {p : Pat} {src : Env → EM (List D)} {cond : Env → EM Bool} {vs1 : List Nat} {p1 : Pat} {src1 : Env → EM (List D)} {cond1 : Env → EM Bool} {elt : Env → EM D} {QL : List D → Mu → Prop} : Wp (fComp2 vs p src cond vs1 p1 src1 cond1 elt env) μ QL E = Wp (src env) μ (fun ds μ1 => Wp (compL2 p cond vs1 p1 src1 cond1 elt (wipeE env vs) ds) μ1 (fun xs μ2 => xs.length ≤ big ∧ QL xs μ2) E) E := by
  unfold fComp2
  rw [wp_bind]; refine wp_ext fun ds μ1 => ?_; rw [wp_bind]; refine wp_ext fun xs μ2 => ?_; rw [wp_guard, decide_eq_true_eq, wp_pure]
end
end EG
namespace EG
open PySem L2
section
variable {α : Type} {μ : Mu} {E : PX} {env : Env} {Q : D → Mu → Prop} {K : SO → Mu → Prop}
/-! rules of texts joined and split, of dicts of the module, of a try that runs through -/
theorem asStr_str {s : Str} : asStr (.str s) = some s := eqp rfl
theorem asStr_int {i : Int} : asStr (.int i) = none := eqp rfl
theorem strsK_nil : strsK [] = some [] := eqp rfl
theorem strsK_cons {s : Str} {r : List D} : strsK (.str s :: r) = (strsK r).map (s :: ·) := eqp rfl
theorem xq_fM1 {op : Str → D → EM α} {f g : Env → EM D} {Q : α → Mu → Prop} : Wp (fM1 op f g env) μ Q E = Wp (f env) μ (fun d μ1 => Op (asStr d) fun a => Wp (g env) μ1 (fun e μ2 => Wp (op a e) μ2 Q E) E) E := by
  unfold fM1; rw [wp_bind]; refine wp_ext fun d μ1 => ?_; rw [wp_bind, wp_opt]; refine op_ext fun a => ?_; rw [wp_bind]
theorem xq_join {a : Str} {ds : List D} : Wp (joinD a (.lst ds)) μ Q E = Op (strsK ds) fun ys => (ys.map (·.length)).sum + ys.length * a.length ≤ 16777216 ∧ Q (.str (Txt.join a ys)) μ := by
  unfold joinD
  show Wp (bindE (pureE ds) _) μ Q E = _
  rw [wp_bind, wp_pure, wp_bind, wp_opt]
  refine op_ext fun ys => ?_
  rw [wp_guard, wp_pure, decide_eq_true_eq]
def SplOk (a b : Str) : Prop := b.length ≠ 0 ∧ a.length + 2 ≤ big ∧ (Txt.split a b).length ≤ big ∧ ∀ s ∈ Txt.split a b, s.length ≤ big
theorem xq_split {a b : Str} {Q : List D → Mu → Prop} : Wp (splitD a (.str b)) μ Q E = (SplOk a b ∧ Q ((Txt.split a b).map .str) μ) := by
  unfold splitD
  rw [wp_bind, wp_opt, asStr_str, op_some, wp_guard, wp_pure]
  unfold SplOk
  simp only [Bool.and_eq_true, decide_eq_true_eq, List.all_eq_true]
theorem xq_fW {op : D → EM D} {f : Env → EM D} : Wp (fW op f env) μ Q E = Wp (f env) μ (fun d μ1 => Wp (op d) μ1 Q E) E := by
  unfold fW; rw [wp_bind]
theorem xq_fW2 {op : D → D → EM D} {f g : Env → EM D} : Wp (fW2 op f g env) μ Q E = Wp (f env) μ (fun d μ1 => Wp (g env) μ1 (fun e μ2 => Wp (op d e) μ2 Q E) E) E := by
  unfold fW2; rw [wp_bind]; refine wp_ext fun d μ1 => ?_; rw [wp_bind]
theorem xq_wIn {neg : Bool} {kvs : List (Str × D)} {z : Str} : Wp (wInD neg kvs (.str z)) μ Q E = Q (.bl (neg != (kvs.lookup z).isSome)) μ := by
  unfold wInD; rw [wp_bind, wp_opt, asStr_str, op_some, wp_pure]
theorem xq_wIx {kvs : List (Str × D)} {z : Str} : Wp (wIxD kvs (.str z)) μ Q E = Op (kvs.lookup z) fun d => Q d μ := by
  unfold wIxD; rw [wp_bind, wp_opt, asStr_str, op_some, wp_opt]
theorem xq_wGet {kvs : List (Str × D)} {z : Str} {e : D} : Wp (wGetD kvs (.str z) e) μ Q E = Q ((kvs.lookup z).getD e) μ := by
  unfold wGetD; rw [wp_bind, wp_opt, asStr_str, op_some, wp_pure]
/-- behind a try's body that raises nothing -/
def tryPK (K : SO → Mu → Prop) : SO → Mu → Prop
  | .exc _ _ _, _ => False
  | o, μ => K o μ
theorem xq_tryP {F : SM} : Wr (fTryP F) env μ K = Wr F env μ (tryPK K) := by
  unfold Wr fTryP
  cases h : F env μ with
  | none => rfl
  | some r => obtain ⟨o, μ'⟩ := r; cases o <;> rfl
/-! a comprehension with two clauses over a written list -/
theorem xq_c2n {p : Pat} {cond : Env → EM Bool} {vs1 : List Nat} {p1 : Pat} {src1 : Env → EM (List D)} {cond1 : Env → EM Bool} {elt : Env → EM D} {QL : List D → Mu → Prop} : Wp (compL2 p cond vs1 p1 src1 cond1 elt env []) μ QL E = QL [] μ := eqp rfl
theorem xq_c2c {p : Pat} {cond : Env → EM Bool} {vs1 : List Nat} {p1 : Pat} {src1 : Env → EM (List D)} {cond1 : Env → EM Bool} {elt : Env → EM D} {QL : List D → Mu → Prop} {d : D} {r : List D} : Wp (compL2 p cond vs1 p1 src1 cond1 elt env (d :: r)) μ QL E = Op (bindP p d env) fun e => Wp (cond e) μ (fun b μ1 => Br b (Wp (src1 e) μ1 (fun es μ2 => Wp (compL p1 cond1 elt (wipeE e vs1) es) μ2 (fun xs μ3 => Wp (compL2 p cond vs1 p1 src1 cond1 elt env r) μ3 (fun ys μ4 => QL (xs ++ ys) μ4) E) E) E00) (Wp (compL2 p cond vs1 p1 src1 cond1 elt env r) μ1 QL E)) E00 := by
  rw [compL2]
  cases bindP p d env with
  | none => exact no_op
  | some e =>
    rw [op_some]
    show Wp (bindE _ _) μ QL E = _
    rw [wp_bind, wp_noX]
    refine wp_ext fun b μ1 => ?_
    cases b with
    | false => rw [br_false]
    | true =>
      rw [br_true]
      show Wp (bindE _ _) μ1 QL E = _
      rw [wp_bind, wp_noX]
      refine wp_ext fun es μ2 => ?_
      rw [wp_bind]
      refine wp_ext fun xs μ3 => ?_
      rw [wp_bind]
      refine wp_ext fun ys μ4 => ?_
      rw [wp_pure]
theorem xq_slN {i : Nat} : (Pat.nm i).slots = [i] := eqp rfl
theorem xq_tp_nx {e : Env} : tryPK K (.nx e) μ = K (.nx e) μ := eqp rfl
theorem xq_tp_rt {d : D} : tryPK K (.rt d) μ = K (.rt d) μ := eqp rfl
theorem xq_tp_br {e : Env} : tryPK K (.br e) μ = K (.br e) μ := eqp rfl
theorem xq_tp_ct {e : Env} : tryPK K (.ct e) μ = K (.ct e) μ := eqp rfl
end
end EG
namespace EG
open PySem L2
section
variable {α β : Type} {μ : Mu} {Q : α → Mu → Prop} {E : PX} {env : Env} {K : SO → Mu → Prop}
/-! dicts with int and text keys -/
theorem xq_keyI {i : Int} : keyD (.int i) = some (.inl i) := rfl
theorem xq_keyS {s : Str} : keyD (.str s) = some (.inr s) := rfl
theorem xq_inK {neg : Bool} {x : D} {kvs : List (Key × D)} {Q : D → Mu → Prop} : Wp (inKD neg x (.dK kvs)) μ Q E = Op (keyD x) fun k => Q (.bl (neg != (getK1 kvs k).isSome)) μ := by
  unfold inKD
  cases keyD x with
  | none => exact propext ⟨fun h => False.elim h, fun ⟨_, h, _⟩ => (nomatch h)⟩
  | some k => rw [op_some]; rfl
theorem xq_ixK {x : D} {kvs : List (Key × D)} {Q : D → Mu → Prop} : Wp (ixKD (.dK kvs) x) μ Q E = Op (keyD x) fun k => Op (getK1 kvs k) fun d => Q d μ := by
  unfold ixKD
  cases keyD x with
  | none => exact propext ⟨fun h => False.elim h, fun ⟨_, h, _⟩ => (nomatch h)⟩
  | some k => rw [op_some]; exact wp_opt
def ownKO (sl : Option Slot) : Option (List (Key × D)) := match sl with
  | some (.own (.dK xs)) => some xs
  | _ => none
theorem xq_oKO {xs : List (Key × D)} : ownKO (some (.own (.dK xs))) = some xs := rfl
theorem ownK_wr {n : Nat} {k : List (Key × D) → SM} : Wr (ownK n k) env μ K = Op (ownKO env[n]?) fun xs => Wr (k xs) env μ K := by
  unfold ownK Wr ownKO
  dsimp only
  have no : ∀ {α : Type} {p : α → Prop}, False = Op (none : Option α) p := fun {α p} => propext ⟨fun h => False.elim h, fun ⟨_, h, _⟩ => (nomatch h)⟩
  cases env[n]? with
  | none => exact no
  | some sl =>
    cases sl with
    | own c =>
      cases c with
      | dK xs => rw [op_some]
      | _ => exact no
    | _ => exact no
theorem xq_newK {i : Nat} : Wr (fNewK i) env μ K = K (.nx (env.set i (.own (.dK [])))) μ := rfl
theorem xq_putKV {n : Nat} {i : Env → EM D} {d : D} : Wr (fPutKV n i d) env μ K = Op (ownKO env[n]?) fun kvs => Wp (i env) μ (fun y μ2 => Op (keyD y) fun k => kvs.length < big ∧ K (.nx (env.set n (.own (.dK (putK1 kvs k d))))) μ2) (exS env K) := by
  unfold fPutKV
  rw [ownK_wr]
  refine op_ext fun kvs => ?_
  rw [ws_lift]
  refine wp_ext fun y μ2 => ?_
  unfold putSK Wr
  cases h : keyD y with
  | none => simp only [h]; exact propext ⟨fun h => False.elim h, fun ⟨_, h, _⟩ => (nomatch h)⟩
  | some k => rw [op_some]; simp only [h]; by_cases h : kvs.length < big <;> simp [h]
theorem xq_putK {n : Nat} {i e : Env → EM D} : Wr (fPutK n i e) env μ K = Wp (e env) μ (fun d μ1 => Op (ownKO env[n]?) fun kvs => Wp (i env) μ1 (fun y μ2 => Op (keyD y) fun k => kvs.length < big ∧ K (.nx (env.set n (.own (.dK (putK1 kvs k d))))) μ2) (exS env K)) (exS env K) := by
  unfold fPutK
  rw [ws_lift]
  refine wp_ext fun d μ1 => ?_
  exact xq_putKV
def three : List D → Option (D × D × D)
  | [a, b, c] => some (a, b, c)
  | _ => none
theorem xq_three {a b c : D} : three [a, b, c] = some (a, b, c) := rfl
theorem xq_setV {i : Nat} {d : D} : Wr (fSetV i d) env μ K = K (.nx (env.set i (.v d))) μ := rfl
theorem xq_put2n {n1 n2 i : Nat} {k1 k2 : Env → EM D} {g : Env → EM (List D)} : Wr (fPut2n n1 n2 i k1 k2 g) env μ K = Wp (g env) μ (fun ds μ1 => Op (three ds) fun t => Wr (fSeq (fPutKV n1 k1 t.1) (fSeq (fPutKV n2 k2 t.2.1) (fSetV i t.2.2))) env μ1 K) (exS env K) := by
  unfold fPut2n
  rw [ws_lift]
  refine wp_ext fun ds μ1 => ?_
  have no : ∀ {α : Type} {p : α → Prop}, False = Op (none : Option α) p := fun {α p} => propext ⟨fun h => False.elim h, fun ⟨_, h, _⟩ => (nomatch h)⟩
  match ds with
  | [a, b, c] => rw [xq_three, op_some]
  | [] => exact no
  | [_] => exact no
  | [_, _] => exact no
  | _ :: _ :: _ :: _ :: _ => exact no
theorem xq_parKK {i j : Nat} {f : Env → EM (List (Key × D))} : Wr (fParKK i j f) env μ K = Wp (f env) μ (fun kvs μ1 => K (.nx ((env.set i (.own (.dK kvs))).set j (.own (.dK [])))) μ1) (exS env K) := by
  unfold fParKK fBP
  rw [ws_lift, wp_bind]
  rfl
theorem xq_par2f {i j : Nat} {g : Env → EM (List D)} {f : Env → EM D} : Wr (fPar2f i j g f) env μ K = Wp (g env) μ (fun xs μ1 => Wp (f env) μ1 (fun d μ2 => K (.nx ((env.set i (.own (.lst xs))).set j (.v d))) μ2) (exS env K)) (exS env K) := by
  unfold fPar2f fCmbF
  rw [ws_lift, wp_bind]
  refine wp_ext fun xs μ1 => ?_
  rw [wp_bind]
  rfl
theorem xq_dcomp {vs : List Nat} {p : Pat} {src : Env → EM (List D)} {cond : Env → EM Bool} {key elt : Env → EM D} {Q : List (Key × D) → Mu → Prop} : Wp (fDComp vs p src cond key elt env) μ Q E = Wp (src env) μ (fun ds μ1 => Wp (compK p cond key elt (wipeE env vs) ds []) μ1 Q E) E := by
  unfold fDComp
  rw [wp_bind]
/-! while -/
def wwS (n : Nat) (I : Nat → Env → Mu → Prop) (K : SO → Mu → Prop) : SO → Mu → Prop
  | .nx e, μ => ∃ m, m < n ∧ I m e μ
  | .ct e, μ => ∃ m, m < n ∧ I m e μ
  | .br e, μ => K (.nx e) μ
  | .rt d, μ => K (.rt d) μ
  | .exc c fs e, μ => K (.exc c fs e) μ
theorem xq_wwS_nx {n : Nat} {I : Nat → Env → Mu → Prop} {e : Env} : wwS n I K (.nx e) μ = ∃ m, m < n ∧ I m e μ := rfl
theorem xq_wwS_ct {n : Nat} {I : Nat → Env → Mu → Prop} {e : Env} : wwS n I K (.ct e) μ = ∃ m, m < n ∧ I m e μ := rfl
theorem xq_wwS_br {n : Nat} {I : Nat → Env → Mu → Prop} {e : Env} : wwS n I K (.br e) μ = K (.nx e) μ := rfl
theorem xq_wwS_rt {n : Nat} {I : Nat → Env → Mu → Prop} {d : D} : wwS n I K (.rt d) μ = K (.rt d) μ := rfl
theorem xq_wwS_exc {n : Nat} {I : Nat → Env → Mu → Prop} {c : Nat} {fs : List (Str × D)} {e : Env} : wwS n I K (.exc c fs e) μ = K (.exc c fs e) μ := rfl
theorem xq_compM {vs : List Nat} {p : Pat} {f : Env → EM D} {cond : Env → EM Bool} {elt : Env → EM D} {QL : List D → Mu → Prop} : Wp (fCompM vs p f cond elt env) μ QL E = Wp (f env) μ (fun d μ1 => Wp (seqQ d) μ1 (fun q μ2 => Wp (compLM q.1 p cond elt (wipeE env vs) q.2) μ2 QL E) E) E := by
  unfold fCompM; rw [wp_bind]; refine wp_ext fun d μ1 => ?_; rw [wp_bind]
theorem xq_orN {f : Env → EM D} {Q : D → Mu → Prop} : Wp (fOrN f env) μ Q E = Wp (f env) μ (fun d μ1 => Wp (orN d) μ1 Q E) E := by
  unfold fOrN; rw [wp_bind]
theorem xq_orN_non {Q : D → Mu → Prop} : Wp (orN .non) μ Q E = Q (.cell μ.length) (μ ++ [.lst []]) := eqp rfl
end
end EG
namespace EG
open PySem L2
/-! try: x = .., except A: raise B(y) from None -/
section
variable {μ : Mu} {env : Env} {K : SO → Mu → Prop}
end
end EG
namespace EG
open PySem L2
section
variable {α β : Type} {μ : Mu} {E : PX} {env : Env} {K : SO → Mu → Prop} {Q : D → Mu → Prop}
/-! exceptions as values -/
theorem xv_mk {g : GX} {f : Env → EM (List D)} : Wp (fMkV g f env) μ Q E = Wp (f env) μ (fun ds μ1 => ds.length = rlen g.fld ∧ Q (.err g.cls (exD g.code g.fld ds)) μ1) E := by
  have er : rlen g.fld = (if g.fld.isSome then 1 else 0) := by cases g.fld <;> rfl
  unfold fMkV
  rw [wp_bind]
  refine wp_ext fun ds μ1 => ?_
  rw [wp_guard, decide_eq_true_eq, er, wp_pure]
/-- the first and only -/
def ex1 : List D → Option D
  | [d] => some d
  | _ => none
theorem xv_ex1 {d : D} : ex1 [d] = some d := eqp rfl
theorem xv_mk1 {nm code f : Str} {n : Nat} {g : Env → EM (List D)} : Wp (fMkV ⟨nm, n, code, some f⟩ g env) μ Q E = Wp (g env) μ (fun ds μ1 => Op (ex1 ds) fun d => Q (.err n [(f, d), ("code", .str code)]) μ1) E := by
  rw [xv_mk]
  refine wp_ext fun ds μ1 => ?_
  show (ds.length = 1 ∧ _) = _
  match ds with
  | [] => exact propext ⟨fun h => (nomatch h.1), fun ⟨_, h, _⟩ => (nomatch h)⟩
  | [d] => exact propext ⟨fun h => ⟨d, rfl, h.2⟩, fun ⟨_, h, q⟩ => by cases h; exact ⟨rfl, q⟩⟩
  | _ :: _ :: _ => exact propext ⟨fun h => by have := h.1; simp at this, fun ⟨_, h, _⟩ => (nomatch h)⟩
theorem xv_mk0 {nm code : Str} {n : Nat} {g : Env → EM (List D)} : Wp (fMkV ⟨nm, n, code, none⟩ g env) μ Q E = Wp (g env) μ (fun ds μ1 => ds.isEmpty = true ∧ Q (.err n [("code", .str code)]) μ1) E := by
  rw [xv_mk]
  refine wp_ext fun ds μ1 => ?_
  show (ds.length = 0 ∧ _) = _
  match ds with
  | [] => exact propext ⟨fun h => ⟨rfl, h.2⟩, fun h => ⟨rfl, h.2⟩⟩
  | _ :: _ => exact propext ⟨fun h => (nomatch h.1), fun h => (nomatch h.1)⟩
def isxD (T : Isi) (xt : Xtab) (cs : List Tag) : D → Option Bool
  | .err k _ => (match xt.contains (k, ("code" : Str)) with
    | true => isiAny T (.ex k) cs
    | false => none)
  | _ => none
theorem xv_isX {T : Isi} {xt : Xtab} {cs : List Tag} {f : Env → EM D} : Wp (fIsX T xt cs f env) μ Q E = Wp (f env) μ (fun d μ1 => Op (isxD T xt cs d) fun b => Q (.bl b) μ1) E := by
  unfold fIsX
  rw [wp_bind]
  refine wp_ext fun d μ1 => ?_
  cases d with
  | err k fs =>
    simp only [isxD, isxE]
    rw [wp_guard]
    cases xt.contains (k, ("code" : Str)) with
    | true =>
      simp only [true_and]
      rw [wp_opt]
      cases isiAny T (.ex k) cs with
      | none => exact propext ⟨fun ⟨_, h, _⟩ => (nomatch h), fun ⟨_, h, _⟩ => (nomatch h)⟩
      | some b => exact propext ⟨fun ⟨_, h, q⟩ => by cases h; exact ⟨b, rfl, q⟩, fun ⟨_, h, q⟩ => by cases h; exact ⟨_, rfl, q⟩⟩
    | false => exact propext ⟨fun h => (nomatch h.1), fun ⟨_, h, _⟩ => (nomatch h)⟩
  | _ => exact propext ⟨fun h => False.elim h, fun ⟨_, h, _⟩ => (nomatch h)⟩
theorem xv_isxD {T : Isi} {xt : Xtab} {cs : List Tag} {c : Nat} {fs : List (Str × D)} (h : memX xt c "code" = true) : isxD T xt cs (.err c fs) = isiAny T (.ex c) cs := by
  have h : xt.contains (c, ("code" : Str)) = true := h
  simp only [isxD, h]
/-- of one class -/
theorem xv_isi1 {T : Isi} {k : Nat} {t : Tag} : isiAny T (.ex k) [t] = T (.ex k) t := by
  have e : isi1 T (.ex k) t = T (.ex k) t := by unfold isi1; cases t <;> rfl
  unfold isiAny
  rw [e]
  cases T (.ex k) t with
  | none => rfl
  | some b => cases b <;> rfl
end
end EG
namespace EG
open PySem PySem.Spec PyProof.Rows L2
/-! several makers of closures: each with its names and its table of code objects -/
structure Mks where
  nm : Nat → List (Str × NameKind)
  P : Nat → Addr
open Classical in
section
variable {W : Wd} {P : Program} {w : World} {mg : Str → Option Value} {base : Heap} {k : Nat}
/-! the law's start with several tables -/
end
end EG
namespace EG
open PySem PySem.Spec PyProof.Rows L2
/-! heads that also tell dicts of the module with text keys -/
end EG
namespace EGL
open PySem L2 EG
def kCls : List Str := []
def kFrees : List Str := ["LookupError", "ValueError", "all", "bool", "int", "isinstance", "len", "list", "range", "str", "super", "tuple", "zip"]
def kConsts : List GC := []
def kIsiT : List (Tag × Tag × Bool) := [(.ex 2, .cls 0, false), (.ex 2, .cls 1, false), (.ex 2, .ty "LookupError", true), (.ex 2, .ty "ValueError", false), (.ex 2, .cls 2, true), (.ex 2, .cls 3, false), (.ex 2, .cls 4, false), (.ex 5, .cls 0, false), (.ex 5, .cls 1, false), (.ex 5, .ty "LookupError", false), (.ex 5, .ty "ValueError", true), (.ex 5, .cls 2, false), (.ex 5, .cls 3, false), (.ex 5, .cls 4, true), (.ex 6, .cls 0, false), (.ex 6, .cls 1, false), (.ex 6, .ty "LookupError", false), (.ex 6, .ty "ValueError", true), (.ex 6, .cls 2, false), (.ex 6, .cls 3, false), (.ex 6, .cls 4, true), (.ex 7, .cls 0, false), (.ex 7, .cls 1, false), (.ex 7, .ty "LookupError", false), (.ex 7, .ty "ValueError", true), (.ex 7, .cls 2, false), (.ex 7, .cls 3, false), (.ex 7, .cls 4, true), (.ex 8, .cls 0, false), (.ex 8, .cls 1, false), (.ex 8, .ty "LookupError", false), (.ex 8, .ty "ValueError", true), (.ex 8, .cls 2, false), (.ex 8, .cls 3, false), (.ex 8, .cls 4, true), (.ex 9, .cls 0, false), (.ex 9, .cls 1, false), (.ex 9, .ty "LookupError", false), (.ex 9, .ty "ValueError", true), (.ex 9, .cls 2, false), (.ex 9, .cls 3, false), (.ex 9, .cls 4, true), (.ex 10, .cls 0, false), (.ex 10, .cls 1, false), (.ex 10, .ty "LookupError", false), (.ex 10, .ty "ValueError", true), (.ex 10, .cls 2, false), (.ex 10, .cls 3, false), (.ex 10, .cls 4, true), (.ex 11, .cls 0, false), (.ex 11, .cls 1, false), (.ex 11, .ty "LookupError", false), (.ex 11, .ty "ValueError", true), (.ex 11, .cls 2, false), (.ex 11, .cls 3, false), (.ex 11, .cls 4, true), (.ex 0, .cls 0, true), (.ex 0, .cls 1, false), (.ex 0, .ty "LookupError", false), (.ex 0, .ty "ValueError", true), (.ex 0, .cls 2, false), (.ex 0, .cls 3, false), (.ex 0, .cls 4, true), (.ex 12, .cls 0, false), (.ex 12, .cls 1, false), (.ex 12, .ty "LookupError", true), (.ex 12, .ty "ValueError", false), (.ex 12, .cls 2, false), (.ex 12, .cls 3, true), (.ex 12, .cls 4, false), (.ex 1, .cls 0, false), (.ex 1, .cls 1, true), (.ex 1, .ty "LookupError", true), (.ex 1, .ty "ValueError", false), (.ex 1, .cls 2, false), (.ex 1, .cls 3, true), (.ex 1, .cls 4, false), (.ex 13, .cls 0, false), (.ex 13, .cls 1, false), (.ex 13, .ty "LookupError", false), (.ex 13, .ty "ValueError", true), (.ex 13, .cls 2, false), (.ex 13, .cls 3, false), (.ex 13, .cls 4, true), (.ex 14, .cls 0, false), (.ex 14, .cls 1, false), (.ex 14, .ty "LookupError", false), (.ex 14, .ty "ValueError", true), (.ex 14, .cls 2, false), (.ex 14, .cls 3, false), (.ex 14, .cls 4, true), (.ex 15, .cls 0, false), (.ex 15, .cls 1, false), (.ex 15, .ty "LookupError", false), (.ex 15, .ty "ValueError", true), (.ex 15, .cls 2, false), (.ex 15, .cls 3, false), (.ex 15, .cls 4, true), (.ex 16, .cls 0, false), (.ex 16, .cls 1, false), (.ex 16, .ty "LookupError", false), (.ex 16, .ty "ValueError", true), (.ex 16, .cls 2, false), (.ex 16, .cls 3, false), (.ex 16, .cls 4, true), (.ex 17, .cls 0, false), (.ex 17, .cls 1, false), (.ex 17, .ty "LookupError", false), (.ex 17, .ty "ValueError", true), (.ex 17, .cls 2, false), (.ex 17, .cls 3, false), (.ex 17, .cls 4, true), (.ex 18, .cls 0, false), (.ex 18, .cls 1, false), (.ex 18, .ty "LookupError", false), (.ex 18, .ty "ValueError", true), (.ex 18, .cls 2, false), (.ex 18, .cls 3, false), (.ex 18, .cls 4, true), (.ex 19, .cls 0, false), (.ex 19, .cls 1, false), (.ex 19, .ty "LookupError", false), (.ex 19, .ty "ValueError", true), (.ex 19, .cls 2, false), (.ex 19, .cls 3, false), (.ex 19, .cls 4, true), (.ex 20, .cls 0, false), (.ex 20, .cls 1, false), (.ex 20, .ty "LookupError", false), (.ex 20, .ty "ValueError", true), (.ex 20, .cls 2, false), (.ex 20, .cls 3, false), (.ex 20, .cls 4, true), (.ex 21, .cls 0, false), (.ex 21, .cls 1, false), (.ex 21, .ty "LookupError", true), (.ex 21, .ty "ValueError", false), (.ex 21, .cls 2, false), (.ex 21, .cls 3, true), (.ex 21, .cls 4, false), (.ex 22, .cls 0, false), (.ex 22, .cls 1, false), (.ex 22, .ty "LookupError", false), (.ex 22, .ty "ValueError", true), (.ex 22, .cls 2, false), (.ex 22, .cls 3, false), (.ex 22, .cls 4, true), (.ex 23, .cls 0, false), (.ex 23, .cls 1, false), (.ex 23, .ty "LookupError", false), (.ex 23, .ty "ValueError", true), (.ex 23, .cls 2, false), (.ex 23, .cls 3, false), (.ex 23, .cls 4, true)]
def kFlds : List (Nat × Str) := []
def kECls : List Str := ["InvalidNumber", "UnknownMeter", "NothingLeft", "Missing", "MeterError", "HoldingRule", "LostWorth", "InvalidPiece", "TooMany", "Full", "InvalidPage", "InvalidRule", "UnknownTick", "InvalidLimit", "InvalidName", "InvalidText", "InvalidUnknown", "InvalidRow", "InvalidCommand", "InvalidReadings", "InvalidMeter", "UnknownName", "WrongKind", "DuplicateName"]
def kXt : Xtab := [(2, ("code" : Str)), (5, ("code" : Str)), (6, ("code" : Str)), (7, ("code" : Str)), (8, ("code" : Str)), (8, ("most" : Str)), (9, ("code" : Str)), (9, ("limit" : Str)), (10, ("code" : Str)), (10, ("line" : Str)), (11, ("code" : Str)), (11, ("what" : Str)), (0, ("code" : Str)), (0, ("given" : Str)), (12, ("code" : Str)), (12, ("given" : Str)), (1, ("code" : Str)), (1, ("given" : Str)), (13, ("code" : Str)), (13, ("given" : Str)), (14, ("code" : Str)), (14, ("given" : Str)), (15, ("code" : Str)), (15, ("given" : Str)), (16, ("code" : Str)), (16, ("given" : Str)), (17, ("code" : Str)), (17, ("at" : Str)), (18, ("code" : Str)), (18, ("at" : Str)), (19, ("code" : Str)), (19, ("at" : Str)), (20, ("code" : Str)), (20, ("at" : Str)), (21, ("code" : Str)), (21, ("name" : Str)), (22, ("code" : Str)), (22, ("name" : Str)), (23, ("code" : Str)), (23, ("name" : Str))]
theorem kxt_0 : memX kXt 2 "code" = true := eqp (by decide)
theorem kxt_1 : memX kXt 5 "code" = true := eqp (by decide)
theorem kxt_2 : memX kXt 6 "code" = true := eqp (by decide)
theorem kxt_3 : memX kXt 7 "code" = true := eqp (by decide)
theorem kxt_4 : memX kXt 8 "code" = true := eqp (by decide)
theorem kxt_5 : memX kXt 8 "most" = true := eqp (by decide)
theorem kxt_6 : memX kXt 9 "code" = true := eqp (by decide)
theorem kxt_7 : memX kXt 9 "limit" = true := eqp (by decide)
theorem kxt_8 : memX kXt 10 "code" = true := eqp (by decide)
theorem kxt_9 : memX kXt 10 "line" = true := eqp (by decide)
theorem kxt_10 : memX kXt 11 "code" = true := eqp (by decide)
theorem kxt_11 : memX kXt 11 "what" = true := eqp (by decide)
theorem kxt_12 : memX kXt 0 "code" = true := eqp (by decide)
theorem kxt_13 : memX kXt 0 "given" = true := eqp (by decide)
theorem kxt_14 : memX kXt 12 "code" = true := eqp (by decide)
theorem kxt_15 : memX kXt 12 "given" = true := eqp (by decide)
theorem kxt_16 : memX kXt 1 "code" = true := eqp (by decide)
theorem kxt_17 : memX kXt 1 "given" = true := eqp (by decide)
theorem kxt_18 : memX kXt 13 "code" = true := eqp (by decide)
theorem kxt_19 : memX kXt 13 "given" = true := eqp (by decide)
theorem kxt_20 : memX kXt 14 "code" = true := eqp (by decide)
theorem kxt_21 : memX kXt 14 "given" = true := eqp (by decide)
theorem kxt_22 : memX kXt 15 "code" = true := eqp (by decide)
theorem kxt_23 : memX kXt 15 "given" = true := eqp (by decide)
theorem kxt_24 : memX kXt 16 "code" = true := eqp (by decide)
theorem kxt_25 : memX kXt 16 "given" = true := eqp (by decide)
theorem kxt_26 : memX kXt 17 "code" = true := eqp (by decide)
theorem kxt_27 : memX kXt 17 "at" = true := eqp (by decide)
theorem kxt_28 : memX kXt 18 "code" = true := eqp (by decide)
theorem kxt_29 : memX kXt 18 "at" = true := eqp (by decide)
theorem kxt_30 : memX kXt 19 "code" = true := eqp (by decide)
theorem kxt_31 : memX kXt 19 "at" = true := eqp (by decide)
theorem kxt_32 : memX kXt 20 "code" = true := eqp (by decide)
theorem kxt_33 : memX kXt 20 "at" = true := eqp (by decide)
theorem kxt_34 : memX kXt 21 "code" = true := eqp (by decide)
theorem kxt_35 : memX kXt 21 "name" = true := eqp (by decide)
theorem kxt_36 : memX kXt 22 "code" = true := eqp (by decide)
theorem kxt_37 : memX kXt 22 "name" = true := eqp (by decide)
theorem kxt_38 : memX kXt 23 "code" = true := eqp (by decide)
theorem kxt_39 : memX kXt 23 "name" = true := eqp (by decide)
def kCt : List (Nat × List Nat) := []
def X_NothingLeft : GX := ⟨"NothingLeft", 2, "NothingLeft", none⟩
def X_HoldingRule : GX := ⟨"HoldingRule", 5, "HoldingRule", none⟩
def X_LostWorth : GX := ⟨"LostWorth", 6, "LostWorth", none⟩
def X_InvalidPiece : GX := ⟨"InvalidPiece", 7, "InvalidPiece", none⟩
def X_TooMany : GX := ⟨"TooMany", 8, "TooMany", some "most"⟩
def X_Full : GX := ⟨"Full", 9, "Full", some "limit"⟩
def X_InvalidPage : GX := ⟨"InvalidPage", 10, "InvalidPage", some "line"⟩
def X_InvalidRule : GX := ⟨"InvalidRule", 11, "InvalidRule", some "what"⟩
def X_InvalidNumber : GX := ⟨"InvalidNumber", 0, "InvalidNumber", some "given"⟩
def X_UnknownTick : GX := ⟨"UnknownTick", 12, "UnknownTick", some "given"⟩
def X_UnknownMeter : GX := ⟨"UnknownMeter", 1, "UnknownMeter", some "given"⟩
def X_InvalidLimit : GX := ⟨"InvalidLimit", 13, "InvalidLimit", some "given"⟩
def X_InvalidName : GX := ⟨"InvalidName", 14, "InvalidName", some "given"⟩
def X_InvalidText : GX := ⟨"InvalidText", 15, "InvalidText", some "given"⟩
def X_InvalidUnknown : GX := ⟨"InvalidUnknown", 16, "InvalidUnknown", some "given"⟩
def X_InvalidRow : GX := ⟨"InvalidRow", 17, "InvalidRow", some "at"⟩
def X_InvalidCommand : GX := ⟨"InvalidCommand", 18, "InvalidCommand", some "at"⟩
def X_InvalidReadings : GX := ⟨"InvalidReadings", 19, "InvalidReadings", some "at"⟩
def X_InvalidMeter : GX := ⟨"InvalidMeter", 20, "InvalidMeter", some "at"⟩
def X_UnknownName : GX := ⟨"UnknownName", 21, "UnknownName", some "name"⟩
def X_WrongKind : GX := ⟨"WrongKind", 22, "WrongKind", some "name"⟩
def X_DuplicateName : GX := ⟨"DuplicateName", 23, "DuplicateName", some "name"⟩
def kExs : List GX := [X_NothingLeft, X_HoldingRule, X_LostWorth, X_InvalidPiece, X_TooMany, X_Full, X_InvalidPage, X_InvalidRule, X_InvalidNumber, X_UnknownTick, X_UnknownMeter, X_InvalidLimit, X_InvalidName, X_InvalidText, X_InvalidUnknown, X_InvalidRow, X_InvalidCommand, X_InvalidReadings, X_InvalidMeter, X_UnknownName, X_WrongKind, X_DuplicateName]
def kG0 : Gam := { fns := [], consts := kConsts, clss := clsTab (kCls ++ kECls), frees := kFrees, isi := isiOf kIsiT, flds := kFlds, xt := kXt, ctch := kCt }
noncomputable def kHfs : List GH := []
theorem kisi_0 : isiOf kIsiT (.ex 2) (.cls 0) = some false := eqp rfl
theorem kisi_1 : isiOf kIsiT (.ex 2) (.cls 1) = some false := eqp rfl
theorem kisi_2 : isiOf kIsiT (.ex 2) (.ty "LookupError") = some true := eqp rfl
theorem kisi_3 : isiOf kIsiT (.ex 2) (.ty "ValueError") = some false := eqp rfl
theorem kisi_4 : isiOf kIsiT (.ex 2) (.cls 2) = some true := eqp rfl
theorem kisi_5 : isiOf kIsiT (.ex 2) (.cls 3) = some false := eqp rfl
theorem kisi_6 : isiOf kIsiT (.ex 2) (.cls 4) = some false := eqp rfl
theorem kisi_7 : isiOf kIsiT (.ex 5) (.cls 0) = some false := eqp rfl
theorem kisi_8 : isiOf kIsiT (.ex 5) (.cls 1) = some false := eqp rfl
theorem kisi_9 : isiOf kIsiT (.ex 5) (.ty "LookupError") = some false := eqp rfl
theorem kisi_10 : isiOf kIsiT (.ex 5) (.ty "ValueError") = some true := eqp rfl
theorem kisi_11 : isiOf kIsiT (.ex 5) (.cls 2) = some false := eqp rfl
theorem kisi_12 : isiOf kIsiT (.ex 5) (.cls 3) = some false := eqp rfl
theorem kisi_13 : isiOf kIsiT (.ex 5) (.cls 4) = some true := eqp rfl
theorem kisi_14 : isiOf kIsiT (.ex 6) (.cls 0) = some false := eqp rfl
theorem kisi_15 : isiOf kIsiT (.ex 6) (.cls 1) = some false := eqp rfl
theorem kisi_16 : isiOf kIsiT (.ex 6) (.ty "LookupError") = some false := eqp rfl
theorem kisi_17 : isiOf kIsiT (.ex 6) (.ty "ValueError") = some true := eqp rfl
theorem kisi_18 : isiOf kIsiT (.ex 6) (.cls 2) = some false := eqp rfl
theorem kisi_19 : isiOf kIsiT (.ex 6) (.cls 3) = some false := eqp rfl
theorem kisi_20 : isiOf kIsiT (.ex 6) (.cls 4) = some true := eqp rfl
theorem kisi_21 : isiOf kIsiT (.ex 7) (.cls 0) = some false := eqp rfl
theorem kisi_22 : isiOf kIsiT (.ex 7) (.cls 1) = some false := eqp rfl
theorem kisi_23 : isiOf kIsiT (.ex 7) (.ty "LookupError") = some false := eqp rfl
theorem kisi_24 : isiOf kIsiT (.ex 7) (.ty "ValueError") = some true := eqp rfl
theorem kisi_25 : isiOf kIsiT (.ex 7) (.cls 2) = some false := eqp rfl
theorem kisi_26 : isiOf kIsiT (.ex 7) (.cls 3) = some false := eqp rfl
theorem kisi_27 : isiOf kIsiT (.ex 7) (.cls 4) = some true := eqp rfl
theorem kisi_28 : isiOf kIsiT (.ex 8) (.cls 0) = some false := eqp rfl
theorem kisi_29 : isiOf kIsiT (.ex 8) (.cls 1) = some false := eqp rfl
theorem kisi_30 : isiOf kIsiT (.ex 8) (.ty "LookupError") = some false := eqp rfl
theorem kisi_31 : isiOf kIsiT (.ex 8) (.ty "ValueError") = some true := eqp rfl
theorem kisi_32 : isiOf kIsiT (.ex 8) (.cls 2) = some false := eqp rfl
theorem kisi_33 : isiOf kIsiT (.ex 8) (.cls 3) = some false := eqp rfl
theorem kisi_34 : isiOf kIsiT (.ex 8) (.cls 4) = some true := eqp rfl
theorem kisi_35 : isiOf kIsiT (.ex 9) (.cls 0) = some false := eqp rfl
theorem kisi_36 : isiOf kIsiT (.ex 9) (.cls 1) = some false := eqp rfl
theorem kisi_37 : isiOf kIsiT (.ex 9) (.ty "LookupError") = some false := eqp rfl
theorem kisi_38 : isiOf kIsiT (.ex 9) (.ty "ValueError") = some true := eqp rfl
theorem kisi_39 : isiOf kIsiT (.ex 9) (.cls 2) = some false := eqp rfl
theorem kisi_40 : isiOf kIsiT (.ex 9) (.cls 3) = some false := eqp rfl
theorem kisi_41 : isiOf kIsiT (.ex 9) (.cls 4) = some true := eqp rfl
theorem kisi_42 : isiOf kIsiT (.ex 10) (.cls 0) = some false := eqp rfl
theorem kisi_43 : isiOf kIsiT (.ex 10) (.cls 1) = some false := eqp rfl
theorem kisi_44 : isiOf kIsiT (.ex 10) (.ty "LookupError") = some false := eqp rfl
theorem kisi_45 : isiOf kIsiT (.ex 10) (.ty "ValueError") = some true := eqp rfl
theorem kisi_46 : isiOf kIsiT (.ex 10) (.cls 2) = some false := eqp rfl
theorem kisi_47 : isiOf kIsiT (.ex 10) (.cls 3) = some false := eqp rfl
theorem kisi_48 : isiOf kIsiT (.ex 10) (.cls 4) = some true := eqp rfl
theorem kisi_49 : isiOf kIsiT (.ex 11) (.cls 0) = some false := eqp rfl
theorem kisi_50 : isiOf kIsiT (.ex 11) (.cls 1) = some false := eqp rfl
theorem kisi_51 : isiOf kIsiT (.ex 11) (.ty "LookupError") = some false := eqp rfl
theorem kisi_52 : isiOf kIsiT (.ex 11) (.ty "ValueError") = some true := eqp rfl
theorem kisi_53 : isiOf kIsiT (.ex 11) (.cls 2) = some false := eqp rfl
theorem kisi_54 : isiOf kIsiT (.ex 11) (.cls 3) = some false := eqp rfl
theorem kisi_55 : isiOf kIsiT (.ex 11) (.cls 4) = some true := eqp rfl
theorem kisi_56 : isiOf kIsiT (.ex 0) (.cls 0) = some true := eqp rfl
theorem kisi_57 : isiOf kIsiT (.ex 0) (.cls 1) = some false := eqp rfl
theorem kisi_58 : isiOf kIsiT (.ex 0) (.ty "LookupError") = some false := eqp rfl
theorem kisi_59 : isiOf kIsiT (.ex 0) (.ty "ValueError") = some true := eqp rfl
theorem kisi_60 : isiOf kIsiT (.ex 0) (.cls 2) = some false := eqp rfl
theorem kisi_61 : isiOf kIsiT (.ex 0) (.cls 3) = some false := eqp rfl
theorem kisi_62 : isiOf kIsiT (.ex 0) (.cls 4) = some true := eqp rfl
theorem kisi_63 : isiOf kIsiT (.ex 12) (.cls 0) = some false := eqp rfl
theorem kisi_64 : isiOf kIsiT (.ex 12) (.cls 1) = some false := eqp rfl
theorem kisi_65 : isiOf kIsiT (.ex 12) (.ty "LookupError") = some true := eqp rfl
theorem kisi_66 : isiOf kIsiT (.ex 12) (.ty "ValueError") = some false := eqp rfl
theorem kisi_67 : isiOf kIsiT (.ex 12) (.cls 2) = some false := eqp rfl
theorem kisi_68 : isiOf kIsiT (.ex 12) (.cls 3) = some true := eqp rfl
theorem kisi_69 : isiOf kIsiT (.ex 12) (.cls 4) = some false := eqp rfl
theorem kisi_70 : isiOf kIsiT (.ex 1) (.cls 0) = some false := eqp rfl
theorem kisi_71 : isiOf kIsiT (.ex 1) (.cls 1) = some true := eqp rfl
theorem kisi_72 : isiOf kIsiT (.ex 1) (.ty "LookupError") = some true := eqp rfl
theorem kisi_73 : isiOf kIsiT (.ex 1) (.ty "ValueError") = some false := eqp rfl
theorem kisi_74 : isiOf kIsiT (.ex 1) (.cls 2) = some false := eqp rfl
theorem kisi_75 : isiOf kIsiT (.ex 1) (.cls 3) = some true := eqp rfl
theorem kisi_76 : isiOf kIsiT (.ex 1) (.cls 4) = some false := eqp rfl
theorem kisi_77 : isiOf kIsiT (.ex 13) (.cls 0) = some false := eqp rfl
theorem kisi_78 : isiOf kIsiT (.ex 13) (.cls 1) = some false := eqp rfl
theorem kisi_79 : isiOf kIsiT (.ex 13) (.ty "LookupError") = some false := eqp rfl
theorem kisi_80 : isiOf kIsiT (.ex 13) (.ty "ValueError") = some true := eqp rfl
theorem kisi_81 : isiOf kIsiT (.ex 13) (.cls 2) = some false := eqp rfl
theorem kisi_82 : isiOf kIsiT (.ex 13) (.cls 3) = some false := eqp rfl
theorem kisi_83 : isiOf kIsiT (.ex 13) (.cls 4) = some true := eqp rfl
theorem kisi_84 : isiOf kIsiT (.ex 14) (.cls 0) = some false := eqp rfl
theorem kisi_85 : isiOf kIsiT (.ex 14) (.cls 1) = some false := eqp rfl
theorem kisi_86 : isiOf kIsiT (.ex 14) (.ty "LookupError") = some false := eqp rfl
theorem kisi_87 : isiOf kIsiT (.ex 14) (.ty "ValueError") = some true := eqp rfl
theorem kisi_88 : isiOf kIsiT (.ex 14) (.cls 2) = some false := eqp rfl
theorem kisi_89 : isiOf kIsiT (.ex 14) (.cls 3) = some false := eqp rfl
theorem kisi_90 : isiOf kIsiT (.ex 14) (.cls 4) = some true := eqp rfl
theorem kisi_91 : isiOf kIsiT (.ex 15) (.cls 0) = some false := eqp rfl
theorem kisi_92 : isiOf kIsiT (.ex 15) (.cls 1) = some false := eqp rfl
theorem kisi_93 : isiOf kIsiT (.ex 15) (.ty "LookupError") = some false := eqp rfl
theorem kisi_94 : isiOf kIsiT (.ex 15) (.ty "ValueError") = some true := eqp rfl
theorem kisi_95 : isiOf kIsiT (.ex 15) (.cls 2) = some false := eqp rfl
theorem kisi_96 : isiOf kIsiT (.ex 15) (.cls 3) = some false := eqp rfl
theorem kisi_97 : isiOf kIsiT (.ex 15) (.cls 4) = some true := eqp rfl
theorem kisi_98 : isiOf kIsiT (.ex 16) (.cls 0) = some false := eqp rfl
theorem kisi_99 : isiOf kIsiT (.ex 16) (.cls 1) = some false := eqp rfl
theorem kisi_100 : isiOf kIsiT (.ex 16) (.ty "LookupError") = some false := eqp rfl
theorem kisi_101 : isiOf kIsiT (.ex 16) (.ty "ValueError") = some true := eqp rfl
theorem kisi_102 : isiOf kIsiT (.ex 16) (.cls 2) = some false := eqp rfl
theorem kisi_103 : isiOf kIsiT (.ex 16) (.cls 3) = some false := eqp rfl
theorem kisi_104 : isiOf kIsiT (.ex 16) (.cls 4) = some true := eqp rfl
theorem kisi_105 : isiOf kIsiT (.ex 17) (.cls 0) = some false := eqp rfl
theorem kisi_106 : isiOf kIsiT (.ex 17) (.cls 1) = some false := eqp rfl
theorem kisi_107 : isiOf kIsiT (.ex 17) (.ty "LookupError") = some false := eqp rfl
theorem kisi_108 : isiOf kIsiT (.ex 17) (.ty "ValueError") = some true := eqp rfl
theorem kisi_109 : isiOf kIsiT (.ex 17) (.cls 2) = some false := eqp rfl
theorem kisi_110 : isiOf kIsiT (.ex 17) (.cls 3) = some false := eqp rfl
theorem kisi_111 : isiOf kIsiT (.ex 17) (.cls 4) = some true := eqp rfl
theorem kisi_112 : isiOf kIsiT (.ex 18) (.cls 0) = some false := eqp rfl
theorem kisi_113 : isiOf kIsiT (.ex 18) (.cls 1) = some false := eqp rfl
theorem kisi_114 : isiOf kIsiT (.ex 18) (.ty "LookupError") = some false := eqp rfl
theorem kisi_115 : isiOf kIsiT (.ex 18) (.ty "ValueError") = some true := eqp rfl
theorem kisi_116 : isiOf kIsiT (.ex 18) (.cls 2) = some false := eqp rfl
theorem kisi_117 : isiOf kIsiT (.ex 18) (.cls 3) = some false := eqp rfl
theorem kisi_118 : isiOf kIsiT (.ex 18) (.cls 4) = some true := eqp rfl
theorem kisi_119 : isiOf kIsiT (.ex 19) (.cls 0) = some false := eqp rfl
theorem kisi_120 : isiOf kIsiT (.ex 19) (.cls 1) = some false := eqp rfl
theorem kisi_121 : isiOf kIsiT (.ex 19) (.ty "LookupError") = some false := eqp rfl
theorem kisi_122 : isiOf kIsiT (.ex 19) (.ty "ValueError") = some true := eqp rfl
theorem kisi_123 : isiOf kIsiT (.ex 19) (.cls 2) = some false := eqp rfl
theorem kisi_124 : isiOf kIsiT (.ex 19) (.cls 3) = some false := eqp rfl
theorem kisi_125 : isiOf kIsiT (.ex 19) (.cls 4) = some true := eqp rfl
theorem kisi_126 : isiOf kIsiT (.ex 20) (.cls 0) = some false := eqp rfl
theorem kisi_127 : isiOf kIsiT (.ex 20) (.cls 1) = some false := eqp rfl
theorem kisi_128 : isiOf kIsiT (.ex 20) (.ty "LookupError") = some false := eqp rfl
theorem kisi_129 : isiOf kIsiT (.ex 20) (.ty "ValueError") = some true := eqp rfl
theorem kisi_130 : isiOf kIsiT (.ex 20) (.cls 2) = some false := eqp rfl
theorem kisi_131 : isiOf kIsiT (.ex 20) (.cls 3) = some false := eqp rfl
theorem kisi_132 : isiOf kIsiT (.ex 20) (.cls 4) = some true := eqp rfl
theorem kisi_133 : isiOf kIsiT (.ex 21) (.cls 0) = some false := eqp rfl
theorem kisi_134 : isiOf kIsiT (.ex 21) (.cls 1) = some false := eqp rfl
theorem kisi_135 : isiOf kIsiT (.ex 21) (.ty "LookupError") = some true := eqp rfl
theorem kisi_136 : isiOf kIsiT (.ex 21) (.ty "ValueError") = some false := eqp rfl
theorem kisi_137 : isiOf kIsiT (.ex 21) (.cls 2) = some false := eqp rfl
theorem kisi_138 : isiOf kIsiT (.ex 21) (.cls 3) = some true := eqp rfl
theorem kisi_139 : isiOf kIsiT (.ex 21) (.cls 4) = some false := eqp rfl
theorem kisi_140 : isiOf kIsiT (.ex 22) (.cls 0) = some false := eqp rfl
theorem kisi_141 : isiOf kIsiT (.ex 22) (.cls 1) = some false := eqp rfl
theorem kisi_142 : isiOf kIsiT (.ex 22) (.ty "LookupError") = some false := eqp rfl
theorem kisi_143 : isiOf kIsiT (.ex 22) (.ty "ValueError") = some true := eqp rfl
theorem kisi_144 : isiOf kIsiT (.ex 22) (.cls 2) = some false := eqp rfl
theorem kisi_145 : isiOf kIsiT (.ex 22) (.cls 3) = some false := eqp rfl
theorem kisi_146 : isiOf kIsiT (.ex 22) (.cls 4) = some true := eqp rfl
theorem kisi_147 : isiOf kIsiT (.ex 23) (.cls 0) = some false := eqp rfl
theorem kisi_148 : isiOf kIsiT (.ex 23) (.cls 1) = some false := eqp rfl
theorem kisi_149 : isiOf kIsiT (.ex 23) (.ty "LookupError") = some false := eqp rfl
theorem kisi_150 : isiOf kIsiT (.ex 23) (.ty "ValueError") = some true := eqp rfl
theorem kisi_151 : isiOf kIsiT (.ex 23) (.cls 2) = some false := eqp rfl
theorem kisi_152 : isiOf kIsiT (.ex 23) (.cls 3) = some false := eqp rfl
theorem kisi_153 : isiOf kIsiT (.ex 23) (.cls 4) = some true := eqp rfl
def N_law_same : List Str := ["_law_found_z", "_law_due", "_law_a", "_law_b"]
def dflD_law_same : List D := []
def kwdD_law_same : List (Str × D) := []
def C_law_same : Cs := .cons (.iff (.isiT [.ty "list", .ty "tuple"] (.v 1)) (.cons (.iff (.bor (.cons (.cmp .ne (.isi (.ty "list") (.v 0)) (.isi (.ty "list") (.v 1))) (.cons (.cmp .ne (.isi (.ty "tuple") (.v 0)) (.isi (.ty "tuple") (.v 1))) .nil))) (.cons (.ret (.bl false)) .nil) .nil) (.cons (.ret (.ban (.cons (.cmp .eq (.blt .len (.cons (.v 0) .nil)) (.blt .len (.cons (.v 1) .nil))) (.cons (.blt .all (.cons (.comp [("_law_a", 2), ("_law_b", 3)] (.tp (.cons (.nm 2) (.cons (.nm 3) .nil))) (.zip (.v 0) (.v 1)) .none (.call 0 (.cons (.v 2) (.cons (.v 3) .nil)))) .nil)) .nil)))) .nil)) .nil) (.cons (.iff (.bor (.cons (.cmp .isN (.v 1) .non) (.cons (.cmp .isN (.v 0) .non) .nil))) (.cons (.ret (.ban (.cons (.cmp .isN (.v 1) .non) (.cons (.cmp .isN (.v 0) .non) .nil)))) .nil) .nil) (.cons (.iff (.bor (.cons (.cmp .ne (.isi (.ty "bool") (.v 1)) (.isi (.ty "bool") (.v 0))) (.cons (.cmp .ne (.isi (.ty "int") (.v 1)) (.isi (.ty "int") (.v 0))) .nil))) (.cons (.ret (.bl false)) .nil) .nil) (.cons (.ret (.ban (.cons (.cmp .eq (.isi (.ty "str") (.v 1)) (.isi (.ty "str") (.v 0))) (.cons (.cmp .eq (.v 0) (.v 1)) .nil)))) .nil)))
noncomputable def T_law_same (n : Nat) (F : Fn) : Tabs' := { fns := [⟨"_law_same", 2, F, n + 0, []⟩] }
noncomputable def F_law_same : Nat → Fn
  | 0 => fun _ _ => none
  | n + 1 => runF 4 (runs (kG0.put (T_law_same n (F_law_same n))) C_law_same)
noncomputable def Gn_law_same (n : Nat) : GFn := ⟨"_law_same", 2, F_law_same n, n + 0, []⟩
def N_law_field : List Str := ["_law_e"]
def dflD_law_field : List D := []
def kwdD_law_field : List (Str × D) := []
def C_law_field : Cs := .cons (.iff (.cmp .in_ (.xf (.v 0) "code") (.tup (.cons (.str "InvalidNumber") (.cons (.str "InvalidUnknown") (.cons (.str "InvalidText") (.cons (.str "InvalidName") (.cons (.str "InvalidLimit") .nil))))))) (.cons (.ret (.tup (.cons (.xf (.v 0) "given") .nil))) .nil) .nil) (.cons (.iff (.cmp .in_ (.xf (.v 0) "code") (.tup (.cons (.str "UnknownMeter") (.cons (.str "UnknownTick") .nil)))) (.cons (.ret (.tup (.cons (.xf (.v 0) "given") .nil))) .nil) .nil) (.cons (.iff (.cmp .in_ (.xf (.v 0) "code") (.tup (.cons (.str "InvalidMeter") (.cons (.str "InvalidReadings") (.cons (.str "InvalidRow") (.cons (.str "InvalidCommand") .nil)))))) (.cons (.ret (.tup (.cons (.xf (.v 0) "at") .nil))) .nil) .nil) (.cons (.iff (.cmp .in_ (.xf (.v 0) "code") (.tup (.cons (.str "DuplicateName") (.cons (.str "WrongKind") (.cons (.str "UnknownName") .nil))))) (.cons (.ret (.tup (.cons (.xf (.v 0) "name") .nil))) .nil) .nil) (.cons (.iff (.cmp .in_ (.xf (.v 0) "code") (.tup (.cons (.str "InvalidRule") (.cons (.str "InvalidPage") .nil)))) (.cons (.ret (.ife (.cmp .eq (.xf (.v 0) "code") (.str "InvalidRule")) (.tup (.cons (.xf (.v 0) "what") .nil)) (.tup (.cons (.xf (.v 0) "line") .nil)))) .nil) .nil) (.cons (.iff (.cmp .in_ (.xf (.v 0) "code") (.tup (.cons (.str "Full") (.cons (.str "TooMany") .nil)))) (.cons (.ret (.ife (.cmp .eq (.xf (.v 0) "code") (.str "Full")) (.tup (.cons (.xf (.v 0) "limit") .nil)) (.tup (.cons (.xf (.v 0) "most") .nil)))) .nil) .nil) (.cons (.ret (.tup .nil)) .nil))))))
noncomputable def T_law_field : Tabs' := {}
noncomputable def F_law_field : Fn := runF 1 (runs (kG0.put T_law_field) C_law_field)
def N_law_numbered_errors : List Str := ["_law_v"]
def dflD_law_numbered_errors : List D := []
def kwdD_law_numbered_errors : List (Str × D) := []
def C_law_numbered_errors : Cs := .cons (.ret (.lst (.cons (.mkX 8 (.cons (.v 0) .nil)) (.cons (.mkX 14 (.cons (.v 0) .nil)) (.cons (.mkX 13 (.cons (.v 0) .nil)) (.cons (.mkX 12 (.cons (.v 0) .nil)) (.cons (.mkX 11 (.cons (.v 0) .nil)) (.cons (.mkX 10 (.cons (.v 0) .nil)) (.cons (.mkX 9 (.cons (.v 0) .nil)) (.cons (.mkXK 8 (.v 0)) .nil)))))))))) .nil
noncomputable def T_law_numbered_errors : Tabs' := { exs := kExs }
noncomputable def F_law_numbered_errors : Fn := runF 1 (runs (kG0.put T_law_numbered_errors) C_law_numbered_errors)
def N_law_placed_errors : List Str := ["_law_v"]
def dflD_law_placed_errors : List D := []
def kwdD_law_placed_errors : List (Str × D) := []
def C_law_placed_errors : Cs := .cons (.ret (.lst (.cons (.mkX 18 (.cons (.v 0) .nil)) (.cons (.mkX 17 (.cons (.v 0) .nil)) (.cons (.mkX 15 (.cons (.v 0) .nil)) (.cons (.mkX 16 (.cons (.v 0) .nil)) (.cons (.mkXK 15 (.v 0)) .nil))))))) .nil
noncomputable def T_law_placed_errors : Tabs' := { exs := kExs }
noncomputable def F_law_placed_errors : Fn := runF 1 (runs (kG0.put T_law_placed_errors) C_law_placed_errors)
def N_law_named_errors : List Str := ["_law_v"]
def dflD_law_named_errors : List D := []
def kwdD_law_named_errors : List (Str × D) := []
def C_law_named_errors : Cs := .cons (.ret (.lst (.cons (.mkX 21 (.cons (.v 0) .nil)) (.cons (.mkX 20 (.cons (.v 0) .nil)) (.cons (.mkX 19 (.cons (.v 0) .nil)) (.cons (.mkXK 19 (.v 0)) .nil)))))) .nil
noncomputable def T_law_named_errors : Tabs' := { exs := kExs }
noncomputable def F_law_named_errors : Fn := runF 1 (runs (kG0.put T_law_named_errors) C_law_named_errors)
def N_law_all_errors : List Str := ["_law_v", "_law_found_z"]
def dflD_law_all_errors : List D := []
def kwdD_law_all_errors : List (Str × D) := []
def C_law_all_errors : Cs := .cons (.set 1 (.cat (.cat (.call 0 (.cons (.v 0) .nil)) (.call 1 (.cons (.v 0) .nil))) (.call 2 (.cons (.v 0) .nil)))) (.cons (.set 1 (.cat (.v 1) (.lst (.cons (.mkXK 7 (.v 0)) (.cons (.mkXK 6 (.v 0)) (.cons (.mkXK 5 (.v 0)) (.cons (.mkXK 4 (.v 0)) (.cons (.mkX 7 (.cons (.v 0) .nil)) .nil)))))))) (.cons (.ret (.cat (.v 1) (.lst (.cons (.mkX 6 (.cons (.v 0) .nil)) (.cons (.mkX 5 (.cons (.v 0) .nil)) (.cons (.mkX 4 (.cons (.v 0) .nil)) (.cons (.mkX 3 .nil) (.cons (.mkX 2 .nil) (.cons (.mkX 1 .nil) (.cons (.mkX 0 .nil) .nil)))))))))) .nil))
noncomputable def U0_law_numbered_errors : GFn := ⟨"_law_numbered_errors", 1, F_law_numbered_errors, 2, []⟩
noncomputable def U1_law_placed_errors : GFn := ⟨"_law_placed_errors", 1, F_law_placed_errors, 2, []⟩
noncomputable def U2_law_named_errors : GFn := ⟨"_law_named_errors", 1, F_law_named_errors, 2, []⟩
noncomputable def T_law_all_errors : Tabs' := { fns := [U0_law_numbered_errors, U1_law_placed_errors, U2_law_named_errors], exs := kExs }
noncomputable def F_law_all_errors : Fn := runF 2 (runs (kG0.put T_law_all_errors) C_law_all_errors)
def N_law_all_by_name : List Str := ["_law_v", "_law_found_z"]
def dflD_law_all_by_name : List D := []
def kwdD_law_all_by_name : List (Str × D) := []
def C_law_all_by_name : Cs := .cons (.set 1 (.lst (.cons (.mkXK 8 (.v 0)) (.cons (.mkXK 14 (.v 0)) (.cons (.mkXK 18 (.v 0)) (.cons (.mkXK 7 (.v 0)) (.cons (.mkXK 17 (.v 0)) .nil))))))) (.cons (.set 1 (.cat (.v 1) (.lst (.cons (.mkXK 15 (.v 0)) (.cons (.mkXK 13 (.v 0)) (.cons (.mkXK 6 (.v 0)) (.cons (.mkXK 12 (.v 0)) (.cons (.mkXK 16 (.v 0)) .nil)))))))) (.cons (.set 1 (.cat (.v 1) (.lst (.cons (.mkXK 11 (.v 0)) (.cons (.mkXK 21 (.v 0)) (.cons (.mkXK 20 (.v 0)) (.cons (.mkXK 5 (.v 0)) (.cons (.mkXK 4 (.v 0)) .nil)))))))) (.cons (.ret (.cat (.v 1) (.lst (.cons (.mkXK 19 (.v 0)) (.cons (.mkXK 10 (.v 0)) (.cons (.mkXK 9 (.v 0)) .nil)))))) .nil)))
noncomputable def T_law_all_by_name : Tabs' := { exs := kExs }
noncomputable def F_law_all_by_name : Fn := runF 2 (runs (kG0.put T_law_all_by_name) C_law_all_by_name)
def N_law_pull : List Str := ["_law_bag_here", "_law_sides", "_law_cell", "_law_digit", "_law_seed"]
def dflD_law_pull : List D := []
def kwdD_law_pull : List (Str × D) := []
def C_law_pull : Cs := .cons (.iff (.ban (.cons (.cmp .eq (.ix (.v 0) (.int 2)) (.int 0)) (.cons (.cmp .lt (.ix (.v 0) (.int 1)) (.blt .len (.cons (.ix (.v 0) (.int 0)) .nil))) .nil))) (.cons (.set 2 (.ix (.ix (.v 0) (.int 0)) (.ix (.v 0) (.int 1)))) (.cons (.setC (.v 0) (.int 1) (.bin .add (.ix (.v 0) (.int 1)) (.int 1))) (.cons (.iff (.cmp .ge (.v 2) (.bin .pow (.int 10) (.int 18))) (.cons (.setC (.v 0) (.int 2) (.v 2)) .nil) (.cons (.setC (.v 0) (.int 3) (.bin .mod (.blt .int (.cons (.bin .add (.bin .add (.bin .mul (.ix (.v 0) (.int 3)) (.int 45179)) (.bin .mul (.bin .mod (.blt .int (.cons (.v 2) .nil)) (.int 2147483477)) (.int 39521))) (.int 43)) .nil)) (.int 2147483563))) .nil)) .nil))) .nil) (.cons (.iff (.cmp .gt (.ix (.v 0) (.int 2)) (.int 0)) (.cons (.set 3 (.bin .mod (.blt .int (.cons (.ix (.v 0) (.int 2)) .nil)) (.v 1))) (.cons (.setC (.v 0) (.int 2) (.bin .div (.ix (.v 0) (.int 2)) (.v 1))) (.cons (.ret (.v 3)) .nil))) .nil) (.cons (.setC (.v 0) (.int 4) (.bin .add (.ix (.v 0) (.int 4)) (.int 1))) (.cons (.set 4 (.ix (.v 0) (.int 3))) (.cons (.setC (.v 0) (.int 3) (.bin .mod (.blt .int (.cons (.bin .add (.bin .add (.bin .add (.bin .mul (.v 4) (.v 4)) (.bin .mul (.v 4) (.int 37363))) (.bin .mul (.ix (.v 0) (.int 4)) (.int 1500011))) (.int 77783)) .nil)) (.int 2147483563))) (.cons (.ret (.bin .mod (.blt .int (.cons (.bin .add (.bin .div (.ix (.v 0) (.int 3)) (.int 73)) (.bin .mul (.bin .mod (.blt .int (.cons (.ix (.v 0) (.int 3)) .nil)) (.int 8017)) (.int 59))) .nil)) (.v 1))) .nil)))))
noncomputable def T_law_pull : Tabs' := {}
noncomputable def F_law_pull : Fn := runF 5 (runs (kG0.put T_law_pull) C_law_pull)
def N_law_of : List Str := ["_law_bag_here", "_law_things"]
def dflD_law_of : List D := []
def kwdD_law_of : List (Str × D) := []
def C_law_of : Cs := .cons (.ret (.ix (.v 1) (.call 0 (.cons (.v 0) (.cons (.blt .len (.cons (.v 1) .nil)) .nil))))) .nil
noncomputable def U3_law_pull : GFn := ⟨"_law_pull", 2, F_law_pull, 1, []⟩
noncomputable def T_law_of : Tabs' := { fns := [U3_law_pull] }
noncomputable def F_law_of : Fn := runF 2 (runs (kG0.put T_law_of) C_law_of)
def N_law_bag : List Str := ["_law_script", "_law_start_z", "_law_cell"]
def dflD_law_bag : List D := []
def kwdD_law_bag : List (Str × D) := []
def C_law_bag : Cs := .cons (.set 1 (.int 10016)) (.cons (.forr (.nm 2) (.seq (.lsl (.v 0) .none (.some (.int 63)))) (.cons (.set 1 (.bin .mod (.blt .int (.cons (.bin .add (.bin .add (.bin .mul (.v 1) (.int 47533)) (.bin .mod (.blt .int (.cons (.v 2) .nil)) (.int 2147483497))) (.int 31)) .nil)) (.int 2147483563))) .nil)) (.cons (.retC (.lst (.cons (.lblt .list (.cons (.lsl (.v 0) .none (.some (.int 63))) .nil)) (.cons (.int 0) (.cons (.int 0) (.cons (.v 1) (.cons (.int 0) .nil))))))) .nil))
noncomputable def T_law_bag : Tabs' := {}
noncomputable def F_law_bag : Fn := runF 3 (runs (kG0.put T_law_bag) C_law_bag)
noncomputable def kLams : List LamI := []
def N_law : List Str := ["_law_script", "_law_bag_here", "_law_v", "_law_codes", "_law_bare", "_law_some", "_law_at_z", "_law_code", "_law_e", "_law_unknown", "_law_told_z", "_law_plain", "_law_due"]
def dflD_law : List D := []
def kwdD_law : List (Str × D) := []
def C_law : Cs := .cons (.set 1 (.call 6 (.cons (.v 0) .nil))) (.cons (.set 2 (.call 4 (.cons (.v 1) (.cons (.lst (.cons .non (.cons (.bl true) (.cons (.neg (.int 3)) (.cons (.str "x") (.cons (.tup (.cons (.int 1) .nil)) (.cons (.call 5 (.cons (.v 1) (.cons (.bin .pow (.int 10) (.int 6)) .nil))) .nil))))))) .nil)))) (.cons (.set 3 (.lst (.cons (.str "InvalidNumber") (.cons (.str "InvalidUnknown") (.cons (.str "InvalidText") (.cons (.str "InvalidName") (.cons (.str "InvalidLimit") (.cons (.str "UnknownMeter") .nil)))))))) (.cons (.set 3 (.cat (.v 3) (.lst (.cons (.str "UnknownTick") (.cons (.str "InvalidNumber") (.cons (.str "InvalidMeter") (.cons (.str "InvalidReadings") (.cons (.str "InvalidRow") (.cons (.str "InvalidCommand") .nil))))))))) (.cons (.set 3 (.cat (.v 3) (.lst (.cons (.str "InvalidRow") (.cons (.str "DuplicateName") (.cons (.str "WrongKind") (.cons (.str "UnknownName") (.cons (.str "UnknownName") (.cons (.str "InvalidRule") .nil))))))))) (.cons (.set 3 (.cat (.v 3) (.lst (.cons (.str "InvalidPage") (.cons (.str "Full") (.cons (.str "TooMany") (.cons (.str "InvalidRule") (.cons (.str "InvalidPage") (.cons (.str "Full") (.cons (.str "TooMany") .nil)))))))))) (.cons (.set 4 (.lst (.cons (.str "InvalidPiece") (.cons (.str "LostWorth") (.cons (.str "HoldingRule") (.cons (.str "NothingLeft") .nil)))))) (.cons (.iff (.nt (.call 0 (.cons (.comp [("_law_e", 8)] (.nm 8) (.seq (.call 3 (.cons (.v 2) .nil))) .none (.call 1 (.cons (.v 8) .nil))) (.cons (.rep (.lst (.cons (.tup (.cons (.v 2) .nil)) .nil)) (.int 18)) .nil)))) (.cons (.ret (.bl false)) .nil) .nil) (.cons (.set 5 (.call 2 (.cons (.v 2) .nil))) (.cons (.forr (.nm 6) (.rng1 (.blt .len (.cons (.v 5) .nil))) (.cons (.par 7 8 (.ix (.cat (.v 3) (.v 4)) (.v 6)) (.ix (.v 5) (.v 6))) (.cons (.iff (.bor (.cons (.cmp .ne (.xf (.v 8) "code") (.v 7)) (.cons (.nt (.call 0 (.cons (.call 1 (.cons (.v 8) .nil)) (.cons (.ife (.cmp .in_ (.v 7) (.v 4)) (.tup .nil) (.tup (.cons (.v 2) .nil))) .nil)))) .nil))) (.cons (.ret (.bl false)) .nil) .nil) (.cons (.set 9 (.cmp .in_ (.v 7) (.tup (.cons (.str "UnknownMeter") (.cons (.str "UnknownTick") (.cons (.str "UnknownName") .nil)))))) (.cons (.set 10 (.lst (.cons (.isX (.cls 4) (.v 8)) (.cons (.isX (.cls 3) (.v 8)) (.cons (.isX (.cls 2) (.v 8)) .nil))))) (.cons (.set 10 (.cat (.v 10) (.lst (.cons (.isX (.ty "ValueError") (.v 8)) (.cons (.isX (.ty "LookupError") (.v 8)) (.cons (.isX (.cls 1) (.v 8)) .nil)))))) (.cons (.set 11 (.ban (.cons (.nt (.v 9)) (.cons (.cmp .ne (.v 7) (.str "NothingLeft")) .nil)))) (.cons (.set 12 (.lst (.cons (.v 11) (.cons (.v 9) (.cons (.cmp .eq (.v 7) (.str "NothingLeft")) (.cons (.v 11) (.cons (.nt (.v 11)) (.cons (.cmp .eq (.v 7) (.str "UnknownMeter")) .nil)))))))) (.cons (.iff (.bor (.cons (.nt (.call 0 (.cons (.v 10) (.cons (.v 12) .nil)))) (.cons (.cmp .ne (.isX (.cls 0) (.v 8)) (.cmp .eq (.v 7) (.str "InvalidNumber"))) .nil))) (.cons (.ret (.bl false)) .nil) .nil) .nil))))))))) (.cons (.ret (.cmp .eq (.blt .len (.cons (.v 5) .nil)) (.int 29))) .nil))))))))))
noncomputable def U4_law_same : GFn := ⟨"_law_same", 2, (F_law_same 6), 6, []⟩
noncomputable def U5_law_field : GFn := ⟨"_law_field", 1, F_law_field, 1, []⟩
noncomputable def U6_law_all_errors : GFn := ⟨"_law_all_errors", 1, F_law_all_errors, 3, []⟩
noncomputable def U7_law_all_by_name : GFn := ⟨"_law_all_by_name", 1, F_law_all_by_name, 2, []⟩
noncomputable def U8_law_of : GFn := ⟨"_law_of", 2, F_law_of, 2, []⟩
noncomputable def U9_law_bag : GFn := ⟨"_law_bag", 1, F_law_bag, 1, []⟩
noncomputable def T_law : Tabs' := { fns := [U4_law_same, U5_law_field, U6_law_all_errors, U7_law_all_by_name, U8_law_of, U3_law_pull, U9_law_bag] }
noncomputable def F_law : Fn := runF 13 (runs (kG0.put T_law) C_law)
end EGL
namespace EGL
open PySem L2 EG
def top (i : Nat) : Stmt := PySem.Challenge.pw_middlehold_k01_errors_and_their_families.main.body.getD i (.Pass ⟨0, 0, 0, 0⟩)
def inCls (i j : Nat) : Stmt := match top i with
  | .ClassDef (body := b) .. => b.getD j (.Pass ⟨0, 0, 0, 0⟩)
  | s => s
abbrev s_law_same : Stmt := top 29
theorem sc_law_same : FnScope N_law_same ["_law_found_z", "_law_due"] (defScope s_law_same) := ⟨rfl, rfl, rfl, by decide +kernel, rfl, by decide +kernel, by decide +kernel⟩
def dn_law_same : DefN := ⟨0, "_law_same", "", "_law_same", "_law_same", defArgs s_law_same, defBody s_law_same, defScope s_law_same, dflD_law_same, kwdD_law_same⟩
abbrev s_law_field : Stmt := top 30
theorem sc_law_field : FnScope N_law_field ["_law_e"] (defScope s_law_field) := ⟨rfl, rfl, rfl, by decide +kernel, rfl, by decide +kernel, by decide +kernel⟩
def dn_law_field : DefN := ⟨0, "_law_field", "", "_law_field", "_law_field", defArgs s_law_field, defBody s_law_field, defScope s_law_field, dflD_law_field, kwdD_law_field⟩
abbrev s_law_numbered_errors : Stmt := top 31
theorem sc_law_numbered_errors : FnScope N_law_numbered_errors ["_law_v"] (defScope s_law_numbered_errors) := ⟨rfl, rfl, rfl, by decide +kernel, rfl, by decide +kernel, by decide +kernel⟩
def dn_law_numbered_errors : DefN := ⟨0, "_law_numbered_errors", "", "_law_numbered_errors", "_law_numbered_errors", defArgs s_law_numbered_errors, defBody s_law_numbered_errors, defScope s_law_numbered_errors, dflD_law_numbered_errors, kwdD_law_numbered_errors⟩
abbrev s_law_placed_errors : Stmt := top 32
theorem sc_law_placed_errors : FnScope N_law_placed_errors ["_law_v"] (defScope s_law_placed_errors) := ⟨rfl, rfl, rfl, by decide +kernel, rfl, by decide +kernel, by decide +kernel⟩
def dn_law_placed_errors : DefN := ⟨0, "_law_placed_errors", "", "_law_placed_errors", "_law_placed_errors", defArgs s_law_placed_errors, defBody s_law_placed_errors, defScope s_law_placed_errors, dflD_law_placed_errors, kwdD_law_placed_errors⟩
abbrev s_law_named_errors : Stmt := top 33
theorem sc_law_named_errors : FnScope N_law_named_errors ["_law_v"] (defScope s_law_named_errors) := ⟨rfl, rfl, rfl, by decide +kernel, rfl, by decide +kernel, by decide +kernel⟩
def dn_law_named_errors : DefN := ⟨0, "_law_named_errors", "", "_law_named_errors", "_law_named_errors", defArgs s_law_named_errors, defBody s_law_named_errors, defScope s_law_named_errors, dflD_law_named_errors, kwdD_law_named_errors⟩
abbrev s_law_all_errors : Stmt := top 34
theorem sc_law_all_errors : FnScope N_law_all_errors ["_law_v"] (defScope s_law_all_errors) := ⟨rfl, rfl, rfl, by decide +kernel, rfl, by decide +kernel, by decide +kernel⟩
def dn_law_all_errors : DefN := ⟨0, "_law_all_errors", "", "_law_all_errors", "_law_all_errors", defArgs s_law_all_errors, defBody s_law_all_errors, defScope s_law_all_errors, dflD_law_all_errors, kwdD_law_all_errors⟩
abbrev s_law_all_by_name : Stmt := top 35
theorem sc_law_all_by_name : FnScope N_law_all_by_name ["_law_v"] (defScope s_law_all_by_name) := ⟨rfl, rfl, rfl, by decide +kernel, rfl, by decide +kernel, by decide +kernel⟩
def dn_law_all_by_name : DefN := ⟨0, "_law_all_by_name", "", "_law_all_by_name", "_law_all_by_name", defArgs s_law_all_by_name, defBody s_law_all_by_name, defScope s_law_all_by_name, dflD_law_all_by_name, kwdD_law_all_by_name⟩
abbrev s_law_pull : Stmt := top 27
theorem sc_law_pull : FnScope N_law_pull ["_law_bag_here", "_law_sides"] (defScope s_law_pull) := ⟨rfl, rfl, rfl, by decide +kernel, rfl, by decide +kernel, by decide +kernel⟩
def dn_law_pull : DefN := ⟨0, "_law_pull", "", "_law_pull", "_law_pull", defArgs s_law_pull, defBody s_law_pull, defScope s_law_pull, dflD_law_pull, kwdD_law_pull⟩
abbrev s_law_of : Stmt := top 28
theorem sc_law_of : FnScope N_law_of ["_law_bag_here", "_law_things"] (defScope s_law_of) := ⟨rfl, rfl, rfl, by decide +kernel, rfl, by decide +kernel, by decide +kernel⟩
def dn_law_of : DefN := ⟨0, "_law_of", "", "_law_of", "_law_of", defArgs s_law_of, defBody s_law_of, defScope s_law_of, dflD_law_of, kwdD_law_of⟩
abbrev s_law_bag : Stmt := top 26
theorem sc_law_bag : FnScope N_law_bag ["_law_script"] (defScope s_law_bag) := ⟨rfl, rfl, rfl, by decide +kernel, rfl, by decide +kernel, by decide +kernel⟩
def dn_law_bag : DefN := ⟨0, "_law_bag", "", "_law_bag", "_law_bag", defArgs s_law_bag, defBody s_law_bag, defScope s_law_bag, dflD_law_bag, kwdD_law_bag⟩
abbrev s_law : Stmt := top 36
theorem sc_law : FnScope N_law ["_law_script"] (defScope s_law) := ⟨rfl, rfl, rfl, by decide +kernel, rfl, by decide +kernel, by decide +kernel⟩
def dn_law : DefN := ⟨0, "law", "", "law", "law", defArgs s_law, defBody s_law, defScope s_law, dflD_law, kwdD_law⟩
theorem chk_law_same (n : Nat) (F : Fn) : chkCs (kG0.put (T_law_same n F)) N_law_same (defScope s_law_same) C_law_same (defBody s_law_same) = true := by kernel_rfl
theorem chk_law_field : chkCs (kG0.put T_law_field) N_law_field (defScope s_law_field) C_law_field (defBody s_law_field) = true := by kernel_rfl
theorem chk_law_numbered_errors : chkCs (kG0.put T_law_numbered_errors) N_law_numbered_errors (defScope s_law_numbered_errors) C_law_numbered_errors (defBody s_law_numbered_errors) = true := by kernel_rfl
theorem chk_law_placed_errors : chkCs (kG0.put T_law_placed_errors) N_law_placed_errors (defScope s_law_placed_errors) C_law_placed_errors (defBody s_law_placed_errors) = true := by kernel_rfl
theorem chk_law_named_errors : chkCs (kG0.put T_law_named_errors) N_law_named_errors (defScope s_law_named_errors) C_law_named_errors (defBody s_law_named_errors) = true := by kernel_rfl
theorem chk_law_all_errors : chkCs (kG0.put T_law_all_errors) N_law_all_errors (defScope s_law_all_errors) C_law_all_errors (defBody s_law_all_errors) = true := by kernel_rfl
theorem chk_law_all_by_name : chkCs (kG0.put T_law_all_by_name) N_law_all_by_name (defScope s_law_all_by_name) C_law_all_by_name (defBody s_law_all_by_name) = true := by kernel_rfl
theorem chk_law_pull : chkCs (kG0.put T_law_pull) N_law_pull (defScope s_law_pull) C_law_pull (defBody s_law_pull) = true := by kernel_rfl
theorem chk_law_of : chkCs (kG0.put T_law_of) N_law_of (defScope s_law_of) C_law_of (defBody s_law_of) = true := by kernel_rfl
theorem chk_law_bag : chkCs (kG0.put T_law_bag) N_law_bag (defScope s_law_bag) C_law_bag (defBody s_law_bag) = true := by kernel_rfl
theorem chk_law : chkCs (kG0.put T_law) N_law (defScope s_law) C_law (defBody s_law) = true := by kernel_rfl
abbrev sx_NothingLeft : Stmt := inCls 24 0
def xf_NothingLeft : ExFn := ⟨"NothingLeft.__init__", "self", "NothingLeft", none, defArgs sx_NothingLeft, defBody sx_NothingLeft, defScope sx_NothingLeft⟩
theorem xs_NothingLeft : ExS xf_NothingLeft := ⟨fun _ _ _ _ _ _ _ _ us hl => match us, hl with | [_], _ => rfl, (fun p hp => nomatch hp), ⟨_, rfl, rfl⟩, ⟨_, _, _, _, _, _, _, _, _, _, _, _, _, _, rfl, rfl, rfl⟩, by decide, by decide +kernel, by decide +kernel, by decide +kernel, by decide +kernel, rfl, rfl, rfl, by decide⟩
def en_NothingLeft : ExN := ⟨"NothingLeft", 2, xf_NothingLeft⟩
abbrev sx_HoldingRule : Stmt := inCls 20 0
def xf_HoldingRule : ExFn := ⟨"HoldingRule.__init__", "self", "HoldingRule", none, defArgs sx_HoldingRule, defBody sx_HoldingRule, defScope sx_HoldingRule⟩
theorem xs_HoldingRule : ExS xf_HoldingRule := ⟨fun _ _ _ _ _ _ _ _ us hl => match us, hl with | [_], _ => rfl, (fun p hp => nomatch hp), ⟨_, rfl, rfl⟩, ⟨_, _, _, _, _, _, _, _, _, _, _, _, _, _, rfl, rfl, rfl⟩, by decide, by decide +kernel, by decide +kernel, by decide +kernel, by decide +kernel, rfl, rfl, rfl, by decide⟩
def en_HoldingRule : ExN := ⟨"HoldingRule", 0, xf_HoldingRule⟩
abbrev sx_LostWorth : Stmt := inCls 19 0
def xf_LostWorth : ExFn := ⟨"LostWorth.__init__", "self", "LostWorth", none, defArgs sx_LostWorth, defBody sx_LostWorth, defScope sx_LostWorth⟩
theorem xs_LostWorth : ExS xf_LostWorth := ⟨fun _ _ _ _ _ _ _ _ us hl => match us, hl with | [_], _ => rfl, (fun p hp => nomatch hp), ⟨_, rfl, rfl⟩, ⟨_, _, _, _, _, _, _, _, _, _, _, _, _, _, rfl, rfl, rfl⟩, by decide, by decide +kernel, by decide +kernel, by decide +kernel, by decide +kernel, rfl, rfl, rfl, by decide⟩
def en_LostWorth : ExN := ⟨"LostWorth", 0, xf_LostWorth⟩
abbrev sx_InvalidPiece : Stmt := inCls 9 0
def xf_InvalidPiece : ExFn := ⟨"InvalidPiece.__init__", "self", "InvalidPiece", none, defArgs sx_InvalidPiece, defBody sx_InvalidPiece, defScope sx_InvalidPiece⟩
theorem xs_InvalidPiece : ExS xf_InvalidPiece := ⟨fun _ _ _ _ _ _ _ _ us hl => match us, hl with | [_], _ => rfl, (fun p hp => nomatch hp), ⟨_, rfl, rfl⟩, ⟨_, _, _, _, _, _, _, _, _, _, _, _, _, _, rfl, rfl, rfl⟩, by decide, by decide +kernel, by decide +kernel, by decide +kernel, by decide +kernel, rfl, rfl, rfl, by decide⟩
def en_InvalidPiece : ExN := ⟨"InvalidPiece", 0, xf_InvalidPiece⟩
abbrev sx_TooMany : Stmt := inCls 18 0
def xf_TooMany : ExFn := ⟨"TooMany.__init__", "self", "TooMany", some ("most", "most"), defArgs sx_TooMany, defBody sx_TooMany, defScope sx_TooMany⟩
theorem xs_TooMany : ExS xf_TooMany := ⟨fun _ _ _ _ _ _ _ _ us hl => match us, hl with | [_, _], _ => rfl, (fun p hp => by have hp := Option.some.inj (show (some (("most" : Str), ("most" : Str)) : Option (Str × Str)) = some p from hp); subst hp; intros; rfl), ⟨_, rfl, rfl⟩, ⟨_, _, _, _, _, _, _, _, _, _, _, _, _, _, rfl, rfl, ⟨_, _, _, _, rfl⟩⟩, by decide, by decide +kernel, by decide +kernel, by decide +kernel, by decide +kernel, rfl, rfl, rfl, by decide⟩
def en_TooMany : ExN := ⟨"TooMany", 0, xf_TooMany⟩
abbrev sx_Full : Stmt := inCls 17 0
def xf_Full : ExFn := ⟨"Full.__init__", "self", "Full", some ("limit", "limit"), defArgs sx_Full, defBody sx_Full, defScope sx_Full⟩
theorem xs_Full : ExS xf_Full := ⟨fun _ _ _ _ _ _ _ _ us hl => match us, hl with | [_, _], _ => rfl, (fun p hp => by have hp := Option.some.inj (show (some (("limit" : Str), ("limit" : Str)) : Option (Str × Str)) = some p from hp); subst hp; intros; rfl), ⟨_, rfl, rfl⟩, ⟨_, _, _, _, _, _, _, _, _, _, _, _, _, _, rfl, rfl, ⟨_, _, _, _, rfl⟩⟩, by decide, by decide +kernel, by decide +kernel, by decide +kernel, by decide +kernel, rfl, rfl, rfl, by decide⟩
def en_Full : ExN := ⟨"Full", 0, xf_Full⟩
abbrev sx_InvalidPage : Stmt := inCls 11 0
def xf_InvalidPage : ExFn := ⟨"InvalidPage.__init__", "self", "InvalidPage", some ("line", "line"), defArgs sx_InvalidPage, defBody sx_InvalidPage, defScope sx_InvalidPage⟩
theorem xs_InvalidPage : ExS xf_InvalidPage := ⟨fun _ _ _ _ _ _ _ _ us hl => match us, hl with | [_, _], _ => rfl, (fun p hp => by have hp := Option.some.inj (show (some (("line" : Str), ("line" : Str)) : Option (Str × Str)) = some p from hp); subst hp; intros; rfl), ⟨_, rfl, rfl⟩, ⟨_, _, _, _, _, _, _, _, _, _, _, _, _, _, rfl, rfl, ⟨_, _, _, _, rfl⟩⟩, by decide, by decide +kernel, by decide +kernel, by decide +kernel, by decide +kernel, rfl, rfl, rfl, by decide⟩
def en_InvalidPage : ExN := ⟨"InvalidPage", 0, xf_InvalidPage⟩
abbrev sx_InvalidRule : Stmt := inCls 6 0
def xf_InvalidRule : ExFn := ⟨"InvalidRule.__init__", "self", "InvalidRule", some ("what", "what"), defArgs sx_InvalidRule, defBody sx_InvalidRule, defScope sx_InvalidRule⟩
theorem xs_InvalidRule : ExS xf_InvalidRule := ⟨fun _ _ _ _ _ _ _ _ us hl => match us, hl with | [_, _], _ => rfl, (fun p hp => by have hp := Option.some.inj (show (some (("what" : Str), ("what" : Str)) : Option (Str × Str)) = some p from hp); subst hp; intros; rfl), ⟨_, rfl, rfl⟩, ⟨_, _, _, _, _, _, _, _, _, _, _, _, _, _, rfl, rfl, ⟨_, _, _, _, rfl⟩⟩, by decide, by decide +kernel, by decide +kernel, by decide +kernel, by decide +kernel, rfl, rfl, rfl, by decide⟩
def en_InvalidRule : ExN := ⟨"InvalidRule", 0, xf_InvalidRule⟩
abbrev sx_InvalidNumber : Stmt := inCls 3 0
def xf_InvalidNumber : ExFn := ⟨"InvalidNumber.__init__", "self", "InvalidNumber", some ("given", "given"), defArgs sx_InvalidNumber, defBody sx_InvalidNumber, defScope sx_InvalidNumber⟩
theorem xs_InvalidNumber : ExS xf_InvalidNumber := ⟨fun _ _ _ _ _ _ _ _ us hl => match us, hl with | [_, _], _ => rfl, (fun p hp => by have hp := Option.some.inj (show (some (("given" : Str), ("given" : Str)) : Option (Str × Str)) = some p from hp); subst hp; intros; rfl), ⟨_, rfl, rfl⟩, ⟨_, _, _, _, _, _, _, _, _, _, _, _, _, _, rfl, rfl, ⟨_, _, _, _, rfl⟩⟩, by decide, by decide +kernel, by decide +kernel, by decide +kernel, by decide +kernel, rfl, rfl, rfl, by decide⟩
def en_InvalidNumber : ExN := ⟨"InvalidNumber", 0, xf_InvalidNumber⟩
abbrev sx_UnknownTick : Stmt := inCls 23 0
def xf_UnknownTick : ExFn := ⟨"UnknownTick.__init__", "self", "UnknownTick", some ("given", "given"), defArgs sx_UnknownTick, defBody sx_UnknownTick, defScope sx_UnknownTick⟩
theorem xs_UnknownTick : ExS xf_UnknownTick := ⟨fun _ _ _ _ _ _ _ _ us hl => match us, hl with | [_, _], _ => rfl, (fun p hp => by have hp := Option.some.inj (show (some (("given" : Str), ("given" : Str)) : Option (Str × Str)) = some p from hp); subst hp; intros; rfl), ⟨_, rfl, rfl⟩, ⟨_, _, _, _, _, _, _, _, _, _, _, _, _, _, rfl, rfl, ⟨_, _, _, _, rfl⟩⟩, by decide, by decide +kernel, by decide +kernel, by decide +kernel, by decide +kernel, rfl, rfl, rfl, by decide⟩
def en_UnknownTick : ExN := ⟨"UnknownTick", 1, xf_UnknownTick⟩
abbrev sx_UnknownMeter : Stmt := inCls 22 0
def xf_UnknownMeter : ExFn := ⟨"UnknownMeter.__init__", "self", "UnknownMeter", some ("given", "given"), defArgs sx_UnknownMeter, defBody sx_UnknownMeter, defScope sx_UnknownMeter⟩
theorem xs_UnknownMeter : ExS xf_UnknownMeter := ⟨fun _ _ _ _ _ _ _ _ us hl => match us, hl with | [_, _], _ => rfl, (fun p hp => by have hp := Option.some.inj (show (some (("given" : Str), ("given" : Str)) : Option (Str × Str)) = some p from hp); subst hp; intros; rfl), ⟨_, rfl, rfl⟩, ⟨_, _, _, _, _, _, _, _, _, _, _, _, _, _, rfl, rfl, ⟨_, _, _, _, rfl⟩⟩, by decide, by decide +kernel, by decide +kernel, by decide +kernel, by decide +kernel, rfl, rfl, rfl, by decide⟩
def en_UnknownMeter : ExN := ⟨"UnknownMeter", 1, xf_UnknownMeter⟩
abbrev sx_InvalidLimit : Stmt := inCls 14 0
def xf_InvalidLimit : ExFn := ⟨"InvalidLimit.__init__", "self", "InvalidLimit", some ("given", "given"), defArgs sx_InvalidLimit, defBody sx_InvalidLimit, defScope sx_InvalidLimit⟩
theorem xs_InvalidLimit : ExS xf_InvalidLimit := ⟨fun _ _ _ _ _ _ _ _ us hl => match us, hl with | [_, _], _ => rfl, (fun p hp => by have hp := Option.some.inj (show (some (("given" : Str), ("given" : Str)) : Option (Str × Str)) = some p from hp); subst hp; intros; rfl), ⟨_, rfl, rfl⟩, ⟨_, _, _, _, _, _, _, _, _, _, _, _, _, _, rfl, rfl, ⟨_, _, _, _, rfl⟩⟩, by decide, by decide +kernel, by decide +kernel, by decide +kernel, by decide +kernel, rfl, rfl, rfl, by decide⟩
def en_InvalidLimit : ExN := ⟨"InvalidLimit", 0, xf_InvalidLimit⟩
abbrev sx_InvalidName : Stmt := inCls 12 0
def xf_InvalidName : ExFn := ⟨"InvalidName.__init__", "self", "InvalidName", some ("given", "given"), defArgs sx_InvalidName, defBody sx_InvalidName, defScope sx_InvalidName⟩
theorem xs_InvalidName : ExS xf_InvalidName := ⟨fun _ _ _ _ _ _ _ _ us hl => match us, hl with | [_, _], _ => rfl, (fun p hp => by have hp := Option.some.inj (show (some (("given" : Str), ("given" : Str)) : Option (Str × Str)) = some p from hp); subst hp; intros; rfl), ⟨_, rfl, rfl⟩, ⟨_, _, _, _, _, _, _, _, _, _, _, _, _, _, rfl, rfl, ⟨_, _, _, _, rfl⟩⟩, by decide, by decide +kernel, by decide +kernel, by decide +kernel, by decide +kernel, rfl, rfl, rfl, by decide⟩
def en_InvalidName : ExN := ⟨"InvalidName", 0, xf_InvalidName⟩
abbrev sx_InvalidText : Stmt := inCls 10 0
def xf_InvalidText : ExFn := ⟨"InvalidText.__init__", "self", "InvalidText", some ("given", "given"), defArgs sx_InvalidText, defBody sx_InvalidText, defScope sx_InvalidText⟩
theorem xs_InvalidText : ExS xf_InvalidText := ⟨fun _ _ _ _ _ _ _ _ us hl => match us, hl with | [_, _], _ => rfl, (fun p hp => by have hp := Option.some.inj (show (some (("given" : Str), ("given" : Str)) : Option (Str × Str)) = some p from hp); subst hp; intros; rfl), ⟨_, rfl, rfl⟩, ⟨_, _, _, _, _, _, _, _, _, _, _, _, _, _, rfl, rfl, ⟨_, _, _, _, rfl⟩⟩, by decide, by decide +kernel, by decide +kernel, by decide +kernel, by decide +kernel, rfl, rfl, rfl, by decide⟩
def en_InvalidText : ExN := ⟨"InvalidText", 0, xf_InvalidText⟩
abbrev sx_InvalidUnknown : Stmt := inCls 4 0
def xf_InvalidUnknown : ExFn := ⟨"InvalidUnknown.__init__", "self", "InvalidUnknown", some ("given", "given"), defArgs sx_InvalidUnknown, defBody sx_InvalidUnknown, defScope sx_InvalidUnknown⟩
theorem xs_InvalidUnknown : ExS xf_InvalidUnknown := ⟨fun _ _ _ _ _ _ _ _ us hl => match us, hl with | [_, _], _ => rfl, (fun p hp => by have hp := Option.some.inj (show (some (("given" : Str), ("given" : Str)) : Option (Str × Str)) = some p from hp); subst hp; intros; rfl), ⟨_, rfl, rfl⟩, ⟨_, _, _, _, _, _, _, _, _, _, _, _, _, _, rfl, rfl, ⟨_, _, _, _, rfl⟩⟩, by decide, by decide +kernel, by decide +kernel, by decide +kernel, by decide +kernel, rfl, rfl, rfl, by decide⟩
def en_InvalidUnknown : ExN := ⟨"InvalidUnknown", 0, xf_InvalidUnknown⟩
abbrev sx_InvalidRow : Stmt := inCls 8 0
def xf_InvalidRow : ExFn := ⟨"InvalidRow.__init__", "self", "InvalidRow", some ("at", "at"), defArgs sx_InvalidRow, defBody sx_InvalidRow, defScope sx_InvalidRow⟩
theorem xs_InvalidRow : ExS xf_InvalidRow := ⟨fun _ _ _ _ _ _ _ _ us hl => match us, hl with | [_, _], _ => rfl, (fun p hp => by have hp := Option.some.inj (show (some (("at" : Str), ("at" : Str)) : Option (Str × Str)) = some p from hp); subst hp; intros; rfl), ⟨_, rfl, rfl⟩, ⟨_, _, _, _, _, _, _, _, _, _, _, _, _, _, rfl, rfl, ⟨_, _, _, _, rfl⟩⟩, by decide, by decide +kernel, by decide +kernel, by decide +kernel, by decide +kernel, rfl, rfl, rfl, by decide⟩
def en_InvalidRow : ExN := ⟨"InvalidRow", 0, xf_InvalidRow⟩
abbrev sx_InvalidCommand : Stmt := inCls 13 0
def xf_InvalidCommand : ExFn := ⟨"InvalidCommand.__init__", "self", "InvalidCommand", some ("at", "at"), defArgs sx_InvalidCommand, defBody sx_InvalidCommand, defScope sx_InvalidCommand⟩
theorem xs_InvalidCommand : ExS xf_InvalidCommand := ⟨fun _ _ _ _ _ _ _ _ us hl => match us, hl with | [_, _], _ => rfl, (fun p hp => by have hp := Option.some.inj (show (some (("at" : Str), ("at" : Str)) : Option (Str × Str)) = some p from hp); subst hp; intros; rfl), ⟨_, rfl, rfl⟩, ⟨_, _, _, _, _, _, _, _, _, _, _, _, _, _, rfl, rfl, ⟨_, _, _, _, rfl⟩⟩, by decide, by decide +kernel, by decide +kernel, by decide +kernel, by decide +kernel, rfl, rfl, rfl, by decide⟩
def en_InvalidCommand : ExN := ⟨"InvalidCommand", 0, xf_InvalidCommand⟩
abbrev sx_InvalidReadings : Stmt := inCls 7 0
def xf_InvalidReadings : ExFn := ⟨"InvalidReadings.__init__", "self", "InvalidReadings", some ("at", "at"), defArgs sx_InvalidReadings, defBody sx_InvalidReadings, defScope sx_InvalidReadings⟩
theorem xs_InvalidReadings : ExS xf_InvalidReadings := ⟨fun _ _ _ _ _ _ _ _ us hl => match us, hl with | [_, _], _ => rfl, (fun p hp => by have hp := Option.some.inj (show (some (("at" : Str), ("at" : Str)) : Option (Str × Str)) = some p from hp); subst hp; intros; rfl), ⟨_, rfl, rfl⟩, ⟨_, _, _, _, _, _, _, _, _, _, _, _, _, _, rfl, rfl, ⟨_, _, _, _, rfl⟩⟩, by decide, by decide +kernel, by decide +kernel, by decide +kernel, by decide +kernel, rfl, rfl, rfl, by decide⟩
def en_InvalidReadings : ExN := ⟨"InvalidReadings", 0, xf_InvalidReadings⟩
abbrev sx_InvalidMeter : Stmt := inCls 5 0
def xf_InvalidMeter : ExFn := ⟨"InvalidMeter.__init__", "self", "InvalidMeter", some ("at", "at"), defArgs sx_InvalidMeter, defBody sx_InvalidMeter, defScope sx_InvalidMeter⟩
theorem xs_InvalidMeter : ExS xf_InvalidMeter := ⟨fun _ _ _ _ _ _ _ _ us hl => match us, hl with | [_, _], _ => rfl, (fun p hp => by have hp := Option.some.inj (show (some (("at" : Str), ("at" : Str)) : Option (Str × Str)) = some p from hp); subst hp; intros; rfl), ⟨_, rfl, rfl⟩, ⟨_, _, _, _, _, _, _, _, _, _, _, _, _, _, rfl, rfl, ⟨_, _, _, _, rfl⟩⟩, by decide, by decide +kernel, by decide +kernel, by decide +kernel, by decide +kernel, rfl, rfl, rfl, by decide⟩
def en_InvalidMeter : ExN := ⟨"InvalidMeter", 0, xf_InvalidMeter⟩
abbrev sx_UnknownName : Stmt := inCls 21 0
def xf_UnknownName : ExFn := ⟨"UnknownName.__init__", "self", "UnknownName", some ("name", "name"), defArgs sx_UnknownName, defBody sx_UnknownName, defScope sx_UnknownName⟩
theorem xs_UnknownName : ExS xf_UnknownName := ⟨fun _ _ _ _ _ _ _ _ us hl => match us, hl with | [_, _], _ => rfl, (fun p hp => by have hp := Option.some.inj (show (some (("name" : Str), ("name" : Str)) : Option (Str × Str)) = some p from hp); subst hp; intros; rfl), ⟨_, rfl, rfl⟩, ⟨_, _, _, _, _, _, _, _, _, _, _, _, _, _, rfl, rfl, ⟨_, _, _, _, rfl⟩⟩, by decide, by decide +kernel, by decide +kernel, by decide +kernel, by decide +kernel, rfl, rfl, rfl, by decide⟩
def en_UnknownName : ExN := ⟨"UnknownName", 1, xf_UnknownName⟩
abbrev sx_WrongKind : Stmt := inCls 16 0
def xf_WrongKind : ExFn := ⟨"WrongKind.__init__", "self", "WrongKind", some ("name", "name"), defArgs sx_WrongKind, defBody sx_WrongKind, defScope sx_WrongKind⟩
theorem xs_WrongKind : ExS xf_WrongKind := ⟨fun _ _ _ _ _ _ _ _ us hl => match us, hl with | [_, _], _ => rfl, (fun p hp => by have hp := Option.some.inj (show (some (("name" : Str), ("name" : Str)) : Option (Str × Str)) = some p from hp); subst hp; intros; rfl), ⟨_, rfl, rfl⟩, ⟨_, _, _, _, _, _, _, _, _, _, _, _, _, _, rfl, rfl, ⟨_, _, _, _, rfl⟩⟩, by decide, by decide +kernel, by decide +kernel, by decide +kernel, by decide +kernel, rfl, rfl, rfl, by decide⟩
def en_WrongKind : ExN := ⟨"WrongKind", 0, xf_WrongKind⟩
abbrev sx_DuplicateName : Stmt := inCls 15 0
def xf_DuplicateName : ExFn := ⟨"DuplicateName.__init__", "self", "DuplicateName", some ("name", "name"), defArgs sx_DuplicateName, defBody sx_DuplicateName, defScope sx_DuplicateName⟩
theorem xs_DuplicateName : ExS xf_DuplicateName := ⟨fun _ _ _ _ _ _ _ _ us hl => match us, hl with | [_, _], _ => rfl, (fun p hp => by have hp := Option.some.inj (show (some (("name" : Str), ("name" : Str)) : Option (Str × Str)) = some p from hp); subst hp; intros; rfl), ⟨_, rfl, rfl⟩, ⟨_, _, _, _, _, _, _, _, _, _, _, _, _, _, rfl, rfl, ⟨_, _, _, _, rfl⟩⟩, by decide, by decide +kernel, by decide +kernel, by decide +kernel, by decide +kernel, rfl, rfl, rfl, by decide⟩
def en_DuplicateName : ExN := ⟨"DuplicateName", 0, xf_DuplicateName⟩
def hx : HX := { file := PySem.Challenge.pw_middlehold_k01_errors_and_their_families.main.file, es := [en_NothingLeft, en_HoldingRule, en_LostWorth, en_InvalidPiece, en_TooMany, en_Full, en_InvalidPage, en_InvalidRule, en_InvalidNumber, en_UnknownTick, en_UnknownMeter, en_InvalidLimit, en_InvalidName, en_InvalidText, en_InvalidUnknown, en_InvalidRow, en_InvalidCommand, en_InvalidReadings, en_InvalidMeter, en_UnknownName, en_WrongKind, en_DuplicateName], cls := kCls ++ kECls, ct := kCt, xt := kXt, tf := [] }
noncomputable abbrev kW (K : PySem.W.Frag) : Wd := lawW K (kCls ++ kECls) (lamBs kLams)
def fa0 : List FaN := [.old (.glo "_law_same"), .old (.glo "_law_field"), .old (.glo "_law_numbered_errors"), .old (.glo "_law_placed_errors"), .old (.glo "_law_named_errors"), .old (.glo "_law_all_errors"), .old (.glo "_law_all_by_name"), .old (.glo "_law_pull"), .old (.glo "_law_of"), .old (.glo "_law_bag"), .old (.glo "law")]
def fa : List FaN := fa0 ++ genFa kCls kECls kFrees kConsts kIsiT kFlds
def fn : List DefN := [dn_law_same, dn_law_field, dn_law_numbered_errors, dn_law_placed_errors, dn_law_named_errors, dn_law_all_errors, dn_law_all_by_name, dn_law_pull, dn_law_of, dn_law_bag, dn_law]
section
variable {K : PySem.W.Frag} {P : Program} {w : World} {mg : Str → Option Value} {base : Heap} {fd : FuncData} {dvs : List V} {kws : List (Str × V)} {h : Heap}
theorem ok_law_same (T : DefT (kW K) dn_law_same (dAd K 0 "_law_same" "") fd dvs kws) (m0 : M0k kG0 (kW K) mg) (gm : mg "_law_same" = some (.ref (dAd K 0 "_law_same" "")))  : ∀ n, FKeep (kW K) P w mg base (Gn_law_same n)
  | 0 => use_fn (ps := ["_law_found_z", "_law_due"]) T FnOk.stuck gm (T.binds rfl (fun _ _ _ _ _ _ us hl => match us, hl with | [_, _], _ => rfl))
  | n + 1 => by
    have ih := ok_law_same T m0 gm  n
    have z := FunD.okE (W := kW K) (P := P) (w := w) (base := base) T.1 sc_law_same (mok_of (k := n + 0) (T := T_law_same n (F_law_same n)) m0 { fns := List.forall_mem_cons.mpr ⟨ih, List.forall_mem_nil _⟩ } (by simp [Tabs'.lvl, Tabs'.lvlX, T_law_same])) (chk_law_same _ _)
    exact use_fn (k := n + 1 + 0) T z gm (T.binds rfl (fun _ _ _ _ _ _ us hl => match us, hl with | [_, _], _ => rfl))
theorem ok_law_field (T : DefT (kW K) dn_law_field (dAd K 0 "_law_field" "") fd dvs kws) (m0 : M0k kG0 (kW K) mg)  : FnOk P w K mg base (L2N.CX P w) 1 (dAd K 0 "_law_field" "") fd ["_law_e"] (spF (kW K) 1 F_law_field) :=
  FunD.okE (W := kW K) (P := P) (w := w) (base := base) T.1 sc_law_field (mok_of (k := 0) (T := T_law_field) m0 {  } (by decide)) chk_law_field
theorem ok_law_numbered_errors (T : DefT (kW K) dn_law_numbered_errors (dAd K 0 "_law_numbered_errors" "") fd dvs kws) (m0 : M0k kG0 (kW K) mg)  (gexs : ∀ g ∈ kExs, GXOk (kW K) P mg g) : FnOk P w K mg base (L2N.CX P w) 2 (dAd K 0 "_law_numbered_errors" "") fd ["_law_v"] (spF (kW K) 1 F_law_numbered_errors) :=
  FunD.okE (W := kW K) (P := P) (w := w) (base := base) T.1 sc_law_numbered_errors (mok_of (k := 1) (T := T_law_numbered_errors) m0 { exs := gexs } (by decide)) chk_law_numbered_errors
theorem ok_law_placed_errors (T : DefT (kW K) dn_law_placed_errors (dAd K 0 "_law_placed_errors" "") fd dvs kws) (m0 : M0k kG0 (kW K) mg)  (gexs : ∀ g ∈ kExs, GXOk (kW K) P mg g) : FnOk P w K mg base (L2N.CX P w) 2 (dAd K 0 "_law_placed_errors" "") fd ["_law_v"] (spF (kW K) 1 F_law_placed_errors) :=
  FunD.okE (W := kW K) (P := P) (w := w) (base := base) T.1 sc_law_placed_errors (mok_of (k := 1) (T := T_law_placed_errors) m0 { exs := gexs } (by decide)) chk_law_placed_errors
theorem ok_law_named_errors (T : DefT (kW K) dn_law_named_errors (dAd K 0 "_law_named_errors" "") fd dvs kws) (m0 : M0k kG0 (kW K) mg)  (gexs : ∀ g ∈ kExs, GXOk (kW K) P mg g) : FnOk P w K mg base (L2N.CX P w) 2 (dAd K 0 "_law_named_errors" "") fd ["_law_v"] (spF (kW K) 1 F_law_named_errors) :=
  FunD.okE (W := kW K) (P := P) (w := w) (base := base) T.1 sc_law_named_errors (mok_of (k := 1) (T := T_law_named_errors) m0 { exs := gexs } (by decide)) chk_law_named_errors
theorem ok_law_all_errors (T : DefT (kW K) dn_law_all_errors (dAd K 0 "_law_all_errors" "") fd dvs kws) (m0 : M0k kG0 (kW K) mg) (h0 : FKeep (kW K) P w mg base U0_law_numbered_errors) (h1 : FKeep (kW K) P w mg base U1_law_placed_errors) (h2 : FKeep (kW K) P w mg base U2_law_named_errors) (gexs : ∀ g ∈ kExs, GXOk (kW K) P mg g) : FnOk P w K mg base (L2N.CX P w) 3 (dAd K 0 "_law_all_errors" "") fd ["_law_v"] (spF (kW K) 1 F_law_all_errors) :=
  FunD.okE (W := kW K) (P := P) (w := w) (base := base) T.1 sc_law_all_errors (mok_of (k := 2) (T := T_law_all_errors) m0 { fns := List.forall_mem_cons.mpr ⟨h0, List.forall_mem_cons.mpr ⟨h1, List.forall_mem_cons.mpr ⟨h2, List.forall_mem_nil _⟩⟩⟩, exs := gexs } (by decide)) chk_law_all_errors
theorem ok_law_all_by_name (T : DefT (kW K) dn_law_all_by_name (dAd K 0 "_law_all_by_name" "") fd dvs kws) (m0 : M0k kG0 (kW K) mg)  (gexs : ∀ g ∈ kExs, GXOk (kW K) P mg g) : FnOk P w K mg base (L2N.CX P w) 2 (dAd K 0 "_law_all_by_name" "") fd ["_law_v"] (spF (kW K) 1 F_law_all_by_name) :=
  FunD.okE (W := kW K) (P := P) (w := w) (base := base) T.1 sc_law_all_by_name (mok_of (k := 1) (T := T_law_all_by_name) m0 { exs := gexs } (by decide)) chk_law_all_by_name
theorem ok_law_pull (T : DefT (kW K) dn_law_pull (dAd K 0 "_law_pull" "") fd dvs kws) (m0 : M0k kG0 (kW K) mg)  : FnOk P w K mg base (L2N.CX P w) 1 (dAd K 0 "_law_pull" "") fd ["_law_bag_here", "_law_sides"] (spF (kW K) 2 F_law_pull) :=
  FunD.okE (W := kW K) (P := P) (w := w) (base := base) T.1 sc_law_pull (mok_of (k := 0) (T := T_law_pull) m0 {  } (by decide)) chk_law_pull
theorem ok_law_of (T : DefT (kW K) dn_law_of (dAd K 0 "_law_of" "") fd dvs kws) (m0 : M0k kG0 (kW K) mg) (h0 : FKeep (kW K) P w mg base U3_law_pull) : FnOk P w K mg base (L2N.CX P w) 2 (dAd K 0 "_law_of" "") fd ["_law_bag_here", "_law_things"] (spF (kW K) 2 F_law_of) :=
  FunD.okE (W := kW K) (P := P) (w := w) (base := base) T.1 sc_law_of (mok_of (k := 1) (T := T_law_of) m0 { fns := List.forall_mem_cons.mpr ⟨h0, List.forall_mem_nil _⟩ } (by decide)) chk_law_of
theorem ok_law_bag (T : DefT (kW K) dn_law_bag (dAd K 0 "_law_bag" "") fd dvs kws) (m0 : M0k kG0 (kW K) mg)  : FnOk P w K mg base (L2N.CX P w) 1 (dAd K 0 "_law_bag" "") fd ["_law_script"] (spF (kW K) 1 F_law_bag) :=
  FunD.okE (W := kW K) (P := P) (w := w) (base := base) T.1 sc_law_bag (mok_of (k := 0) (T := T_law_bag) m0 {  } (by decide)) chk_law_bag
theorem ok_law (T : DefT (kW K) dn_law (dAd K 0 "law" "") fd dvs kws) (m0 : M0k kG0 (kW K) mg) (h0 : FKeep (kW K) P w mg base U4_law_same) (h1 : FKeep (kW K) P w mg base U5_law_field) (h2 : FKeep (kW K) P w mg base U6_law_all_errors) (h3 : FKeep (kW K) P w mg base U7_law_all_by_name) (h4 : FKeep (kW K) P w mg base U8_law_of) (h5 : FKeep (kW K) P w mg base U3_law_pull) (h6 : FKeep (kW K) P w mg base U9_law_bag) : FnOk P w K mg base (L2N.CX P w) 7 (dAd K 0 "law" "") fd ["_law_script"] (spF (kW K) 1 F_law) :=
  FunD.okE (W := kW K) (P := P) (w := w) (base := base) T.1 sc_law (mok_of (k := 6) (T := T_law) m0 { fns := List.forall_mem_cons.mpr ⟨h0, List.forall_mem_cons.mpr ⟨h1, List.forall_mem_cons.mpr ⟨h2, List.forall_mem_cons.mpr ⟨h3, List.forall_mem_cons.mpr ⟨h4, List.forall_mem_cons.mpr ⟨h5, List.forall_mem_cons.mpr ⟨h6, List.forall_mem_nil _⟩⟩⟩⟩⟩⟩⟩ } (by decide)) chk_law
theorem use_U0_law_numbered_errors (T : DefT (kW K) dn_law_numbered_errors (dAd K 0 "_law_numbered_errors" "") fd dvs kws) (hf : FnOk P w K mg base (L2N.CX P w) 2 (dAd K 0 "_law_numbered_errors" "") fd ["_law_v"] (spF (kW K) 1 F_law_numbered_errors)) (gm : mg "_law_numbered_errors" = some (.ref (dAd K 0 "_law_numbered_errors" ""))) : FKeep (kW K) P w mg base U0_law_numbered_errors := use_fn T hf gm (T.binds rfl (fun _ _ _ _ _ _ us hl => match us, hl with | [_], _ => rfl))
theorem use_U1_law_placed_errors (T : DefT (kW K) dn_law_placed_errors (dAd K 0 "_law_placed_errors" "") fd dvs kws) (hf : FnOk P w K mg base (L2N.CX P w) 2 (dAd K 0 "_law_placed_errors" "") fd ["_law_v"] (spF (kW K) 1 F_law_placed_errors)) (gm : mg "_law_placed_errors" = some (.ref (dAd K 0 "_law_placed_errors" ""))) : FKeep (kW K) P w mg base U1_law_placed_errors := use_fn T hf gm (T.binds rfl (fun _ _ _ _ _ _ us hl => match us, hl with | [_], _ => rfl))
theorem use_U2_law_named_errors (T : DefT (kW K) dn_law_named_errors (dAd K 0 "_law_named_errors" "") fd dvs kws) (hf : FnOk P w K mg base (L2N.CX P w) 2 (dAd K 0 "_law_named_errors" "") fd ["_law_v"] (spF (kW K) 1 F_law_named_errors)) (gm : mg "_law_named_errors" = some (.ref (dAd K 0 "_law_named_errors" ""))) : FKeep (kW K) P w mg base U2_law_named_errors := use_fn T hf gm (T.binds rfl (fun _ _ _ _ _ _ us hl => match us, hl with | [_], _ => rfl))
theorem use_U3_law_pull (T : DefT (kW K) dn_law_pull (dAd K 0 "_law_pull" "") fd dvs kws) (hf : FnOk P w K mg base (L2N.CX P w) 1 (dAd K 0 "_law_pull" "") fd ["_law_bag_here", "_law_sides"] (spF (kW K) 2 F_law_pull)) (gm : mg "_law_pull" = some (.ref (dAd K 0 "_law_pull" ""))) : FKeep (kW K) P w mg base U3_law_pull := use_fn T hf gm (T.binds rfl (fun _ _ _ _ _ _ us hl => match us, hl with | [_, _], _ => rfl))
theorem use_U5_law_field (T : DefT (kW K) dn_law_field (dAd K 0 "_law_field" "") fd dvs kws) (hf : FnOk P w K mg base (L2N.CX P w) 1 (dAd K 0 "_law_field" "") fd ["_law_e"] (spF (kW K) 1 F_law_field)) (gm : mg "_law_field" = some (.ref (dAd K 0 "_law_field" ""))) : FKeep (kW K) P w mg base U5_law_field := use_fn T hf gm (T.binds rfl (fun _ _ _ _ _ _ us hl => match us, hl with | [_], _ => rfl))
theorem use_U6_law_all_errors (T : DefT (kW K) dn_law_all_errors (dAd K 0 "_law_all_errors" "") fd dvs kws) (hf : FnOk P w K mg base (L2N.CX P w) 3 (dAd K 0 "_law_all_errors" "") fd ["_law_v"] (spF (kW K) 1 F_law_all_errors)) (gm : mg "_law_all_errors" = some (.ref (dAd K 0 "_law_all_errors" ""))) : FKeep (kW K) P w mg base U6_law_all_errors := use_fn T hf gm (T.binds rfl (fun _ _ _ _ _ _ us hl => match us, hl with | [_], _ => rfl))
theorem use_U7_law_all_by_name (T : DefT (kW K) dn_law_all_by_name (dAd K 0 "_law_all_by_name" "") fd dvs kws) (hf : FnOk P w K mg base (L2N.CX P w) 2 (dAd K 0 "_law_all_by_name" "") fd ["_law_v"] (spF (kW K) 1 F_law_all_by_name)) (gm : mg "_law_all_by_name" = some (.ref (dAd K 0 "_law_all_by_name" ""))) : FKeep (kW K) P w mg base U7_law_all_by_name := use_fn T hf gm (T.binds rfl (fun _ _ _ _ _ _ us hl => match us, hl with | [_], _ => rfl))
theorem use_U8_law_of (T : DefT (kW K) dn_law_of (dAd K 0 "_law_of" "") fd dvs kws) (hf : FnOk P w K mg base (L2N.CX P w) 2 (dAd K 0 "_law_of" "") fd ["_law_bag_here", "_law_things"] (spF (kW K) 2 F_law_of)) (gm : mg "_law_of" = some (.ref (dAd K 0 "_law_of" ""))) : FKeep (kW K) P w mg base U8_law_of := use_fn T hf gm (T.binds rfl (fun _ _ _ _ _ _ us hl => match us, hl with | [_, _], _ => rfl))
theorem use_U9_law_bag (T : DefT (kW K) dn_law_bag (dAd K 0 "_law_bag" "") fd dvs kws) (hf : FnOk P w K mg base (L2N.CX P w) 1 (dAd K 0 "_law_bag" "") fd ["_law_script"] (spF (kW K) 1 F_law_bag)) (gm : mg "_law_bag" = some (.ref (dAd K 0 "_law_bag" ""))) : FKeep (kW K) P w mg base U9_law_bag := use_fn T hf gm (T.binds rfl (fun _ _ _ _ _ _ us hl => match us, hl with | [_], _ => rfl))
end
abbrev R : PySem.W.OpenRow := PySem.W.OpenLaw.row PySem.Challenge.rw_middlehold_k01_errors_and_their_families
abbrev hk : PySem.W.Hook := hookM 7 fa fn hx
def ob (s : PySem.W.SharedT) : AlM := obsM 7 fa fn hx (HandSHeadRun.getT s)
theorem ob_eq (s : PySem.W.SharedT) : ob s = hk.obs s.abs := obsM_eq (HandSHeadRun.getT_eq s)
def loose : List Str := (["MeterError", "Missing", "InvalidNumber", "InvalidUnknown", "InvalidMeter", "InvalidRule", "InvalidReadings", "InvalidRow", "InvalidPiece", "InvalidText", "InvalidPage", "InvalidName", "InvalidCommand", "InvalidLimit", "DuplicateName", "WrongKind", "Full", "TooMany", "LostWorth", "HoldingRule", "UnknownName", "UnknownMeter", "UnknownTick", "NothingLeft", "_law_bag", "_law_pull", "_law_of", "_law_same", "_law_field", "_law_numbered_errors"] : List Str) ++ (["_law_placed_errors", "_law_named_errors", "_law_all_errors", "_law_all_by_name"] : List Str)
theorem run (w : World) : HandSHeadRun.RunEq R (PySem.W.view R.prog [36]) hk ob 20000 loose w := by
  intro os
  kernel_rfl
theorem facts {P : Program} {w : World} {K : PySem.W.Frag} {h : Heap} {mg : Str → Option Value} {f : Addr} (X : K.In h) (G : h.Ns mainGlobals mg) (hfa : mg ("law" : Str) = some (.ref f)) (cM : SaysM fa fn hx h K) (hfile : (P.main.file : Str) = hx.file) (htop : (P.main.scope.names.lookup ("super" : Str)).isSome = false) :
    ∃ fd : FuncData, (∀ (s : Shared) (v : Value), BindsTo s fd ⟨[v], []⟩ [("_law_script", v)]) ∧ ∀ base : Heap, K.In base → base.Ns mainGlobals mg → FnOk P w K mg base (L2N.CX P w) 7 f fd ["_law_script"] (spF (kW K) 1 F_law) := by
  have c := cM.t
  have m0 : M0k kG0 (kW K) mg := (m0_of (lb := lamBs kLams) X G c (fun f hf => List.mem_append_right _ hf)).ext rfl rfl rfl rfl rfl cM.xtab cM.ctch (fun _ _ _ _ _ h => nomatch h)
  have gexs : ∀ g ∈ kExs, GXOk (kW K) P mg g := List.forall_mem_cons.mpr ⟨cM.gx (lb := lamBs kLams) (e := en_NothingLeft) (List.mem_of_getElem? (i := 0) rfl) xs_NothingLeft hfile htop rfl (m0.clss "NothingLeft" 2 (by decide)) rfl rfl (by decide) (m0.frees "super" (by decide)) (fun p hp => nomatch hp), List.forall_mem_cons.mpr ⟨cM.gx (lb := lamBs kLams) (e := en_HoldingRule) (List.mem_of_getElem? (i := 1) rfl) xs_HoldingRule hfile htop rfl (m0.clss "HoldingRule" 5 (by decide)) rfl rfl (by decide) (m0.frees "super" (by decide)) (fun p hp => nomatch hp), List.forall_mem_cons.mpr ⟨cM.gx (lb := lamBs kLams) (e := en_LostWorth) (List.mem_of_getElem? (i := 2) rfl) xs_LostWorth hfile htop rfl (m0.clss "LostWorth" 6 (by decide)) rfl rfl (by decide) (m0.frees "super" (by decide)) (fun p hp => nomatch hp), List.forall_mem_cons.mpr ⟨cM.gx (lb := lamBs kLams) (e := en_InvalidPiece) (List.mem_of_getElem? (i := 3) rfl) xs_InvalidPiece hfile htop rfl (m0.clss "InvalidPiece" 7 (by decide)) rfl rfl (by decide) (m0.frees "super" (by decide)) (fun p hp => nomatch hp), List.forall_mem_cons.mpr ⟨cM.gx (lb := lamBs kLams) (e := en_TooMany) (List.mem_of_getElem? (i := 4) rfl) xs_TooMany hfile htop rfl (m0.clss "TooMany" 8 (by decide)) rfl rfl (by decide) (m0.frees "super" (by decide)) (fun p hp => by have hp := Option.some.inj (show (some (("most" : Str), ("most" : Str)) : Option (Str × Str)) = some p from hp); subst hp; rfl), List.forall_mem_cons.mpr ⟨cM.gx (lb := lamBs kLams) (e := en_Full) (List.mem_of_getElem? (i := 5) rfl) xs_Full hfile htop rfl (m0.clss "Full" 9 (by decide)) rfl rfl (by decide) (m0.frees "super" (by decide)) (fun p hp => by have hp := Option.some.inj (show (some (("limit" : Str), ("limit" : Str)) : Option (Str × Str)) = some p from hp); subst hp; rfl), List.forall_mem_cons.mpr ⟨cM.gx (lb := lamBs kLams) (e := en_InvalidPage) (List.mem_of_getElem? (i := 6) rfl) xs_InvalidPage hfile htop rfl (m0.clss "InvalidPage" 10 (by decide)) rfl rfl (by decide) (m0.frees "super" (by decide)) (fun p hp => by have hp := Option.some.inj (show (some (("line" : Str), ("line" : Str)) : Option (Str × Str)) = some p from hp); subst hp; rfl), List.forall_mem_cons.mpr ⟨cM.gx (lb := lamBs kLams) (e := en_InvalidRule) (List.mem_of_getElem? (i := 7) rfl) xs_InvalidRule hfile htop rfl (m0.clss "InvalidRule" 11 (by decide)) rfl rfl (by decide) (m0.frees "super" (by decide)) (fun p hp => by have hp := Option.some.inj (show (some (("what" : Str), ("what" : Str)) : Option (Str × Str)) = some p from hp); subst hp; rfl), List.forall_mem_cons.mpr ⟨cM.gx (lb := lamBs kLams) (e := en_InvalidNumber) (List.mem_of_getElem? (i := 8) rfl) xs_InvalidNumber hfile htop rfl (m0.clss "InvalidNumber" 0 (by decide)) rfl rfl (by decide) (m0.frees "super" (by decide)) (fun p hp => by have hp := Option.some.inj (show (some (("given" : Str), ("given" : Str)) : Option (Str × Str)) = some p from hp); subst hp; rfl), List.forall_mem_cons.mpr ⟨cM.gx (lb := lamBs kLams) (e := en_UnknownTick) (List.mem_of_getElem? (i := 9) rfl) xs_UnknownTick hfile htop rfl (m0.clss "UnknownTick" 12 (by decide)) rfl rfl (by decide) (m0.frees "super" (by decide)) (fun p hp => by have hp := Option.some.inj (show (some (("given" : Str), ("given" : Str)) : Option (Str × Str)) = some p from hp); subst hp; rfl), List.forall_mem_cons.mpr ⟨cM.gx (lb := lamBs kLams) (e := en_UnknownMeter) (List.mem_of_getElem? (i := 10) rfl) xs_UnknownMeter hfile htop rfl (m0.clss "UnknownMeter" 1 (by decide)) rfl rfl (by decide) (m0.frees "super" (by decide)) (fun p hp => by have hp := Option.some.inj (show (some (("given" : Str), ("given" : Str)) : Option (Str × Str)) = some p from hp); subst hp; rfl), List.forall_mem_cons.mpr ⟨cM.gx (lb := lamBs kLams) (e := en_InvalidLimit) (List.mem_of_getElem? (i := 11) rfl) xs_InvalidLimit hfile htop rfl (m0.clss "InvalidLimit" 13 (by decide)) rfl rfl (by decide) (m0.frees "super" (by decide)) (fun p hp => by have hp := Option.some.inj (show (some (("given" : Str), ("given" : Str)) : Option (Str × Str)) = some p from hp); subst hp; rfl), List.forall_mem_cons.mpr ⟨cM.gx (lb := lamBs kLams) (e := en_InvalidName) (List.mem_of_getElem? (i := 12) rfl) xs_InvalidName hfile htop rfl (m0.clss "InvalidName" 14 (by decide)) rfl rfl (by decide) (m0.frees "super" (by decide)) (fun p hp => by have hp := Option.some.inj (show (some (("given" : Str), ("given" : Str)) : Option (Str × Str)) = some p from hp); subst hp; rfl), List.forall_mem_cons.mpr ⟨cM.gx (lb := lamBs kLams) (e := en_InvalidText) (List.mem_of_getElem? (i := 13) rfl) xs_InvalidText hfile htop rfl (m0.clss "InvalidText" 15 (by decide)) rfl rfl (by decide) (m0.frees "super" (by decide)) (fun p hp => by have hp := Option.some.inj (show (some (("given" : Str), ("given" : Str)) : Option (Str × Str)) = some p from hp); subst hp; rfl), List.forall_mem_cons.mpr ⟨cM.gx (lb := lamBs kLams) (e := en_InvalidUnknown) (List.mem_of_getElem? (i := 14) rfl) xs_InvalidUnknown hfile htop rfl (m0.clss "InvalidUnknown" 16 (by decide)) rfl rfl (by decide) (m0.frees "super" (by decide)) (fun p hp => by have hp := Option.some.inj (show (some (("given" : Str), ("given" : Str)) : Option (Str × Str)) = some p from hp); subst hp; rfl), List.forall_mem_cons.mpr ⟨cM.gx (lb := lamBs kLams) (e := en_InvalidRow) (List.mem_of_getElem? (i := 15) rfl) xs_InvalidRow hfile htop rfl (m0.clss "InvalidRow" 17 (by decide)) rfl rfl (by decide) (m0.frees "super" (by decide)) (fun p hp => by have hp := Option.some.inj (show (some (("at" : Str), ("at" : Str)) : Option (Str × Str)) = some p from hp); subst hp; rfl), List.forall_mem_cons.mpr ⟨cM.gx (lb := lamBs kLams) (e := en_InvalidCommand) (List.mem_of_getElem? (i := 16) rfl) xs_InvalidCommand hfile htop rfl (m0.clss "InvalidCommand" 18 (by decide)) rfl rfl (by decide) (m0.frees "super" (by decide)) (fun p hp => by have hp := Option.some.inj (show (some (("at" : Str), ("at" : Str)) : Option (Str × Str)) = some p from hp); subst hp; rfl), List.forall_mem_cons.mpr ⟨cM.gx (lb := lamBs kLams) (e := en_InvalidReadings) (List.mem_of_getElem? (i := 17) rfl) xs_InvalidReadings hfile htop rfl (m0.clss "InvalidReadings" 19 (by decide)) rfl rfl (by decide) (m0.frees "super" (by decide)) (fun p hp => by have hp := Option.some.inj (show (some (("at" : Str), ("at" : Str)) : Option (Str × Str)) = some p from hp); subst hp; rfl), List.forall_mem_cons.mpr ⟨cM.gx (lb := lamBs kLams) (e := en_InvalidMeter) (List.mem_of_getElem? (i := 18) rfl) xs_InvalidMeter hfile htop rfl (m0.clss "InvalidMeter" 20 (by decide)) rfl rfl (by decide) (m0.frees "super" (by decide)) (fun p hp => by have hp := Option.some.inj (show (some (("at" : Str), ("at" : Str)) : Option (Str × Str)) = some p from hp); subst hp; rfl), List.forall_mem_cons.mpr ⟨cM.gx (lb := lamBs kLams) (e := en_UnknownName) (List.mem_of_getElem? (i := 19) rfl) xs_UnknownName hfile htop rfl (m0.clss "UnknownName" 21 (by decide)) rfl rfl (by decide) (m0.frees "super" (by decide)) (fun p hp => by have hp := Option.some.inj (show (some (("name" : Str), ("name" : Str)) : Option (Str × Str)) = some p from hp); subst hp; rfl), List.forall_mem_cons.mpr ⟨cM.gx (lb := lamBs kLams) (e := en_WrongKind) (List.mem_of_getElem? (i := 20) rfl) xs_WrongKind hfile htop rfl (m0.clss "WrongKind" 22 (by decide)) rfl rfl (by decide) (m0.frees "super" (by decide)) (fun p hp => by have hp := Option.some.inj (show (some (("name" : Str), ("name" : Str)) : Option (Str × Str)) = some p from hp); subst hp; rfl), List.forall_mem_cons.mpr ⟨cM.gx (lb := lamBs kLams) (e := en_DuplicateName) (List.mem_of_getElem? (i := 21) rfl) xs_DuplicateName hfile htop rfl (m0.clss "DuplicateName" 23 (by decide)) rfl rfl (by decide) (m0.frees "super" (by decide)) (fun p hp => by have hp := Option.some.inj (show (some (("name" : Str), ("name" : Str)) : Option (Str × Str)) = some p from hp); subst hp; rfl), List.forall_mem_nil _⟩⟩⟩⟩⟩⟩⟩⟩⟩⟩⟩⟩⟩⟩⟩⟩⟩⟩⟩⟩⟩⟩
  obtain ⟨fd0, dv0, kw0, T0⟩ := c.def_ (W := kW K) 0 (d := dn_law_same) rfl
  have g0 : mg "_law_same" = some (.ref (dAd K 0 "_law_same" "")) := He.glo_ok X G (c.fact 0 (f := .old (.glo "_law_same")) rfl)
  obtain ⟨fd1, dv1, kw1, T1⟩ := c.def_ (W := kW K) 1 (d := dn_law_field) rfl
  have g1 : mg "_law_field" = some (.ref (dAd K 0 "_law_field" "")) := He.glo_ok X G (c.fact 1 (f := .old (.glo "_law_field")) rfl)
  obtain ⟨fd2, dv2, kw2, T2⟩ := c.def_ (W := kW K) 2 (d := dn_law_numbered_errors) rfl
  have g2 : mg "_law_numbered_errors" = some (.ref (dAd K 0 "_law_numbered_errors" "")) := He.glo_ok X G (c.fact 2 (f := .old (.glo "_law_numbered_errors")) rfl)
  obtain ⟨fd3, dv3, kw3, T3⟩ := c.def_ (W := kW K) 3 (d := dn_law_placed_errors) rfl
  have g3 : mg "_law_placed_errors" = some (.ref (dAd K 0 "_law_placed_errors" "")) := He.glo_ok X G (c.fact 3 (f := .old (.glo "_law_placed_errors")) rfl)
  obtain ⟨fd4, dv4, kw4, T4⟩ := c.def_ (W := kW K) 4 (d := dn_law_named_errors) rfl
  have g4 : mg "_law_named_errors" = some (.ref (dAd K 0 "_law_named_errors" "")) := He.glo_ok X G (c.fact 4 (f := .old (.glo "_law_named_errors")) rfl)
  obtain ⟨fd5, dv5, kw5, T5⟩ := c.def_ (W := kW K) 5 (d := dn_law_all_errors) rfl
  have g5 : mg "_law_all_errors" = some (.ref (dAd K 0 "_law_all_errors" "")) := He.glo_ok X G (c.fact 5 (f := .old (.glo "_law_all_errors")) rfl)
  obtain ⟨fd6, dv6, kw6, T6⟩ := c.def_ (W := kW K) 6 (d := dn_law_all_by_name) rfl
  have g6 : mg "_law_all_by_name" = some (.ref (dAd K 0 "_law_all_by_name" "")) := He.glo_ok X G (c.fact 6 (f := .old (.glo "_law_all_by_name")) rfl)
  obtain ⟨fd7, dv7, kw7, T7⟩ := c.def_ (W := kW K) 7 (d := dn_law_pull) rfl
  have g7 : mg "_law_pull" = some (.ref (dAd K 0 "_law_pull" "")) := He.glo_ok X G (c.fact 7 (f := .old (.glo "_law_pull")) rfl)
  obtain ⟨fd8, dv8, kw8, T8⟩ := c.def_ (W := kW K) 8 (d := dn_law_of) rfl
  have g8 : mg "_law_of" = some (.ref (dAd K 0 "_law_of" "")) := He.glo_ok X G (c.fact 8 (f := .old (.glo "_law_of")) rfl)
  obtain ⟨fd9, dv9, kw9, T9⟩ := c.def_ (W := kW K) 9 (d := dn_law_bag) rfl
  have g9 : mg "_law_bag" = some (.ref (dAd K 0 "_law_bag" "")) := He.glo_ok X G (c.fact 9 (f := .old (.glo "_law_bag")) rfl)
  obtain ⟨fd10, dv10, kw10, T10⟩ := c.def_ (W := kW K) 10 (d := dn_law) rfl
  have g10 : mg "law" = some (.ref (dAd K 0 "law" "")) := He.glo_ok X G (c.fact 10 (f := .old (.glo "law")) rfl)
  have e := hfa.symm.trans g10
  cases e
  refine ⟨fd10, fun s v => T10.bindsA (ps := ["_law_script"]) rfl (fun _ _ _ _ _ _ us hl => match us, hl with | [_], _ => rfl) s [v] rfl, fun base _ _ => ?_⟩
  have ghfs : ∀ g ∈ kHfs, GHOk (kW K) P w mg base g := List.forall_mem_nil _
  have o1 := ok_law_field (P := P) (w := w) (base := base) T1 m0 
  have o2 := ok_law_numbered_errors (P := P) (w := w) (base := base) T2 m0  gexs
  have o3 := ok_law_placed_errors (P := P) (w := w) (base := base) T3 m0  gexs
  have o4 := ok_law_named_errors (P := P) (w := w) (base := base) T4 m0  gexs
  have k_U0_law_numbered_errors := (use_U0_law_numbered_errors T2 o2 g2)
  have k_U1_law_placed_errors := (use_U1_law_placed_errors T3 o3 g3)
  have k_U2_law_named_errors := (use_U2_law_named_errors T4 o4 g4)
  have o5 := ok_law_all_errors (P := P) (w := w) (base := base) T5 m0 k_U0_law_numbered_errors k_U1_law_placed_errors k_U2_law_named_errors gexs
  have o6 := ok_law_all_by_name (P := P) (w := w) (base := base) T6 m0  gexs
  have o7 := ok_law_pull (P := P) (w := w) (base := base) T7 m0 
  have k_U3_law_pull := (use_U3_law_pull T7 o7 g7)
  have o8 := ok_law_of (P := P) (w := w) (base := base) T8 m0 k_U3_law_pull
  have o9 := ok_law_bag (P := P) (w := w) (base := base) T9 m0 
  have glam : LamOk (kW K) P w mg base 1 (lamLF kLams) := lamOk_of (k := 0) rfl (List.forall_mem_nil _)
  have k_U4_law_same := (ok_law_same (P := P) (w := w) (base := base) T0 m0 g0  6)
  have k_U5_law_field := (use_U5_law_field T1 o1 g1)
  have k_U6_law_all_errors := (use_U6_law_all_errors T5 o5 g5)
  have k_U7_law_all_by_name := (use_U7_law_all_by_name T6 o6 g6)
  have k_U8_law_of := (use_U8_law_of T8 o8 g8)
  have k_U9_law_bag := (use_U9_law_bag T9 o9 g9)
  exact ok_law (P := P) (w := w) (base := base) T10 m0 k_U4_law_same k_U5_law_field k_U6_law_all_errors k_U7_law_all_by_name k_U8_law_of k_U3_law_pull k_U9_law_bag
end EGL
namespace EG
open PySem L2

/-! what all laws draw from: the bag -/
def B_pull : Cs := .cons (.iff (.ban (.cons (.cmp .eq (.ix (.v 0) (.int 2)) (.int 0)) (.cons (.cmp .lt (.ix (.v 0) (.int 1)) (.blt .len (.cons (.ix (.v 0) (.int 0)) .nil))) .nil))) (.cons (.set 2 (.ix (.ix (.v 0) (.int 0)) (.ix (.v 0) (.int 1)))) (.cons (.setC (.v 0) (.int 1) (.bin .add (.ix (.v 0) (.int 1)) (.int 1))) (.cons (.iff (.cmp .ge (.v 2) (.bin .pow (.int 10) (.int 18))) (.cons (.setC (.v 0) (.int 2) (.v 2)) .nil) (.cons (.setC (.v 0) (.int 3) (.bin .mod (.blt .int (.cons (.bin .add (.bin .add (.bin .mul (.ix (.v 0) (.int 3)) (.int 45179)) (.bin .mul (.bin .mod (.blt .int (.cons (.v 2) .nil)) (.int 2147483477)) (.int 39521))) (.int 43)) .nil)) (.int 2147483563))) .nil)) .nil))) .nil) (.cons (.iff (.cmp .gt (.ix (.v 0) (.int 2)) (.int 0)) (.cons (.set 3 (.bin .mod (.blt .int (.cons (.ix (.v 0) (.int 2)) .nil)) (.v 1))) (.cons (.setC (.v 0) (.int 2) (.bin .div (.ix (.v 0) (.int 2)) (.v 1))) (.cons (.ret (.v 3)) .nil))) .nil) (.cons (.setC (.v 0) (.int 4) (.bin .add (.ix (.v 0) (.int 4)) (.int 1))) (.cons (.set 4 (.ix (.v 0) (.int 3))) (.cons (.setC (.v 0) (.int 3) (.bin .mod (.blt .int (.cons (.bin .add (.bin .add (.bin .add (.bin .mul (.v 4) (.v 4)) (.bin .mul (.v 4) (.int 37363))) (.bin .mul (.ix (.v 0) (.int 4)) (.int 1500011))) (.int 77783)) .nil)) (.int 2147483563))) (.cons (.ret (.bin .mod (.blt .int (.cons (.bin .add (.bin .div (.ix (.v 0) (.int 3)) (.int 73)) (.bin .mul (.bin .mod (.blt .int (.cons (.ix (.v 0) (.int 3)) .nil)) (.int 8017)) (.int 59))) .nil)) (.v 1))) .nil)))))
def B_of : Cs := .cons (.ret (.ix (.v 1) (.call 0 (.cons (.v 0) (.cons (.blt .len (.cons (.v 1) .nil)) .nil))))) .nil
def B_bag : Cs := .cons (.set 1 (.int 10016)) (.cons (.forr (.nm 2) (.seq (.lsl (.v 0) .none (.some (.int 63)))) (.cons (.set 1 (.bin .mod (.blt .int (.cons (.bin .add (.bin .add (.bin .mul (.v 1) (.int 47533)) (.bin .mod (.blt .int (.cons (.v 2) .nil)) (.int 2147483497))) (.int 31)) .nil)) (.int 2147483563))) .nil)) (.cons (.retC (.lst (.cons (.lblt .list (.cons (.lsl (.v 0) .none (.some (.int 63))) .nil)) (.cons (.int 0) (.cons (.int 0) (.cons (.v 1) (.cons (.int 0) .nil))))))) .nil))
def B_same : Cs := .cons (.iff (.isiT [.ty "list", .ty "tuple"] (.v 1)) (.cons (.iff (.bor (.cons (.cmp .ne (.isi (.ty "list") (.v 0)) (.isi (.ty "list") (.v 1))) (.cons (.cmp .ne (.isi (.ty "tuple") (.v 0)) (.isi (.ty "tuple") (.v 1))) .nil))) (.cons (.ret (.bl false)) .nil) .nil) (.cons (.ret (.ban (.cons (.cmp .eq (.blt .len (.cons (.v 0) .nil)) (.blt .len (.cons (.v 1) .nil))) (.cons (.blt .all (.cons (.comp [("_law_a", 2), ("_law_b", 3)] (.tp (.cons (.nm 2) (.cons (.nm 3) .nil))) (.zip (.v 0) (.v 1)) .none (.call 0 (.cons (.v 2) (.cons (.v 3) .nil)))) .nil)) .nil)))) .nil)) .nil) (.cons (.iff (.bor (.cons (.cmp .isN (.v 1) .non) (.cons (.cmp .isN (.v 0) .non) .nil))) (.cons (.ret (.ban (.cons (.cmp .isN (.v 1) .non) (.cons (.cmp .isN (.v 0) .non) .nil)))) .nil) .nil) (.cons (.iff (.bor (.cons (.cmp .ne (.isi (.ty "bool") (.v 1)) (.isi (.ty "bool") (.v 0))) (.cons (.cmp .ne (.isi (.ty "int") (.v 1)) (.isi (.ty "int") (.v 0))) .nil))) (.cons (.ret (.bl false)) .nil) .nil) (.cons (.ret (.ban (.cons (.cmp .eq (.isi (.ty "str") (.v 1)) (.isi (.ty "str") (.v 0))) (.cons (.cmp .eq (.v 0) (.v 1)) .nil)))) .nil)))
/-- a bag that may be drawn from -/
def BagOk (b : Cell) : Prop := ∃ (ns : List Int) (i g z k : Int), b = .lst [.lst (ns.map D.int), .int i, .int g, .int z, .int k] ∧ 0 ≤ i ∧ 0 ≤ g ∧ 0 ≤ z ∧ z < 2147483563 ∧ 0 ≤ k
section
local macro_rules
  | `(tactic| array_get_dec) => `(tactic| simp only [↓br_true, ↓br_false, ↓op_some, ↓wp_bind, ↓wp_pure, ↓wp_fail, ↓wp_opt, ↓wp_guard, ↓wp_v, ↓wp_vB, ↓wp_c, ↓wp_op2, ↓wp_op2L, ↓wp_t, ↓wp_tru, ↓wp_chain, ↓wp_andT, ↓wp_orT, ↓wp_notT, ↓wp_andV, ↓wp_orV, ↓wp_notV, ↓wp_if, ↓wp_nil, ↓wp_cons, ↓wp_tup, ↓wp_lst, ↓wp_D, ↓wp_cb, ↓wp_call, ↓wp_isi, ↓wp_neg, ↓wp_sl, ↓wp_noP, ↓wp_P, ↓wp_yes, ↓wp_items, ↓wp_signs, ↓wp_comp, ↓ws_seq, ↓thn_nx, ↓thn_rt, ↓thn_br, ↓thn_ct, ↓thn_exc, ↓ws_skip, ↓ws_break, ↓ws_cont, ↓ws_retN, ↓ws_set, ↓ws_own, ↓ws_ret, ↓ws_drop, ↓ws_if, ↓ws_asg, ↓ws_par3, ↓ws_par3o, ↓ws_par, ↓ws_setC, ↓wp_newc, ↓ws_app, ↓ws_ext, ↓ws_setI, ↓ws_frz, ↓ws_for, ↓wl_nil, ↓wl_cons, ↓wf_run, ↓retS_nx, ↓retS_rt, ↓lpS_nx, ↓lpS_ct, ↓lpS_br, ↓lpS_rt, ↓turn_nx, ↓turn_ct, ↓turn_br, ↓turn_rt, ↓wp_addI, ↓wp_addS, ↓wp_subI, ↓wp_mulI, ↓wp_divI, ↓wp_modI, ↓wp_powI, ↓wp_cmpI, ↓wp_eq, ↓wp_ne, ↓wp_negI, ↓wp_seqE, ↓wp_lstE, ↓wp_ixL, ↓wp_ixT, ↓wp_ixC, ↓wp_ixS, ↓wp_lenS, ↓wp_lenL, ↓wp_lenT, ↓wp_lenC, ↓wp_absI, ↓wp_intI, ↓wp_intB, ↓wp_intS, ↓wp_strI, ↓wp_boolI, ↓wp_boolB, ↓wp_all, ↓wp_any, ↓wp_sum, ↓wp_max2, ↓wp_min2, ↓wp_list, ↓wp_tuple, ↓wp_sorted, ↓wp_slS, ↓wp_slT, ↓wp_slLD, ↓wp_slC, ↓wp_slL, ↓wp_range1, ↓wp_range2, ↓wp_enum, ↓wp_enumT, ↓wp_zip, ↓wp_zipTT, ↓wp_zipTL, ↓wp_zipLT, ↓wp_cat, ↓wp_rep, ↓wp_inSg, ↓wp_notInSg, ↓wp_inL, ↓wp_inT, ↓wp_notIn, ↓wp_isN, ↓wp_notN, ↓wp_isB, ↓wp_notB, tt1, tt2, tt3, tt4, tt5, tt6, tu1, tu2, tu3, tu4, tu5, tu6, tu7, tu8, tu9, tu10, tu11, tu12, tu13, tu14, tu15, tu16, tu17, tu18, tu19, tu20, tu21, tu22, tu23, tu24, asB_bl, truD_non, truD_bl, truD_int, truD_str, truD_lst, truD_tup, asI_int, asS_str, items_lst, items_tup, items_str, valS_v, valB_v, valB_own, seqD_lst, seqD_tup, seqD_cell0, lstD_lst, lstD_cell0, cellL_0, own_lst, nonB_non, nonB_bl, nonB_int, nonB_str, nonB_lst, nonB_tup, nonB_cell, nonB_obj, bools_nil, bools_cons, ints_nil, ints_cons, eqD_ii, eqD_bb, eqD_ss, eqD_nn, eqD_ni, eqD_in, eqD_nb, eqD_bn, eqD_ns, eqD_sn, eqD_is, eqD_si, eqD_bs, eqD_sb, tag_non, tag_bl, tag_int, tag_str, tag_lst, tag_tup, tag_obj, bindP_nm, bindP_tp, bindP_tl, bindPs_nil, bindPs_cons, ↓wp_get, ↓wp_meth, ↓wp_prop, ↓ws_setF, ↓wp_mk, ↓wp_own, ↓wp_kd, ↓wp_methK, ↓wp_ownNe, ↓wp_own1, ↓wp_ownT, ↓wp_fstr, ↓wp_fFn, ↓wp_fFc, ↓wp_fmtS, ↓wp_fmtI, kok_len, kok_repr, kok_bool, eqD_tt, eqD_ll, plB_non, plB_bl, plB_int, plB_str, plB_lst, plB_tup, eqBs_nn, eqBs_cc, eqBs_nc, eqBs_cn, eqB_ii, eqB_bb, eqB_ss, eqB_nn, eqB_ll, eqB_tt, eqB_ni, eqB_in, eqB_nt, eqB_tn, eqB_it, eqB_ti, ↓wp_addT, ↓wp_addL, ↓wp_mulL, objD_obj, objD_last, cellO_last, set_last, isO_obj, isO_last, putD_nil, putD_cons, lkp_nil, lkp_cons, bel_plain, bels_plain, belF_nil, belF_cons, ↓wp_compN, ↓wp_compC, rng_0, rng_1, rng_2, rng_3, enL_nil, enL_cons, zpL_nil, zpL_nilR, zpL_cons, ↓wp_maxL, ↓wp_minL, maxL_2, maxL_1, minL_2, minL_1, bel_non, bel_bl, bel_int, bel_str, bel_lst, bel_tup, bel_obj, bels_nil, bels_cons, kst_app0, ctl_hi, ctl_lo, ctl_no, kst_inj, ↓wp_rgI1, ↓wp_rgI2, ↓wp_rg1, ↓wp_rg2, ↓wp_callO, kst_beq, ↓ws_appC, ↓wp_compZ, ↓wp_zipM, ↓wp_compLN, ↓wp_compLC, seqD_mL, seqD_mT, seqD_mC, kst_kL, kst_kT, keep_cell, tag_cellL, ↓wp_u, ↓wp_lone, ↓wp_star, dataL_lst, dataL_tup, ↓wp_cu, ↓wp_mu, ↓wp_mku, ↓wp_lmu, isCls_eq, ↓wu_F, ↓wu_S, ↓ws_forM, ↓wfm_lst, ↓wfm_tup, ↓xq_rl0, ↓xq_rl1, ↓xq_raise, ↓xq_exD0, ↓xq_exD1, ↓xq_exS, ↓xq_retS, ↓xq_thn, ↓xq_try, ↓xq_tk_nx, ↓xq_tk_rt, ↓xq_tk_br, ↓xq_tk_ct, ↓xq_tk_exc, ↓xq_ek_nx, ↓xq_ek_rt, ↓xq_xf, ↓xq_xfD, ↓xq_callQ, seqD_cell2, lstD_cell2, cellL_2, seqD_cell3, lstD_cell3, cellL_3, seqD_cell4, lstD_cell4, cellL_4, seqD_cell5, lstD_cell5, cellL_5, ↓xq_inS_nil, ↓xq_inS_cons, ↓xq_cloS, ↓xq_capM, ↓xq_act, ↓xq_lam1, ↓xq_lam2, ↓xq_lam3, ↓xq_lam4, ↓xq_lf, ↓xq_lamF, ↓xq_callZ, ↓xq_lendF, ↓xq_caps_nil, ↓xq_caps, ↓xq_envL_nil, ↓xq_envL, ↓xq_slotL, ↓xq_par2o, ↓xq_inPL, ↓xq_notInPL, ↓xq_clearC, ↓xq_inT, ↓xq_newT, ↓xq_putT, ↓xq_ins, ↓xq_mulT, ↓xq_rev, ↓xq_zip3, kst_rep1, kst_rep2, kst_rep3, kst_rep4, kst_seqL, kst_seqT, zpL_3nil, zpL_3cons, ↓xq_ownOp, ↓xq_ownIn, ↓xq_comp2, EG.runs, EG.run, uOf, ev, evs, evo, evr, evf, mkE, mkL, failL, bopF, copF, bltF, lbltF, env0, wipeE, isiAny, isi1, frzS, Cell.toD, atI_nn, setAt_nn, wp_inSg, Gam.put, clsTab, arrQ, arrP, Pick.of, kwM, rightB, E00, List.map_cons, List.map_nil, List.length_cons, List.length_nil, List.append_nil, List.nil_append, List.cons_append, List.getElem?_cons_zero, List.getElem?_cons_succ, List.getElem?_nil, List.set_cons_zero, List.set_cons_succ, List.filter_cons, List.filter_nil, List.contains_nil, List.elem_nil, Int.reduceNeg, Int.reducePow, nA10, nA2, le_big, Nat.reducePow, Nat.zero_add, Option.map_some, Option.bind_some, Int.reduceLE, Int.reduceToNat, Int.reduceLT, Nat.reduceLT, Nat.reduceAdd, Nat.reduceSub, true_and, and_true, decide_true, decide_false, List.length_append, List.length_map, Nat.reduceLeDiff, Nat.reduceEqDiff, Bool.not_true, Bool.not_false, decide_eq_true_eq, reduceCtorEq, Option.some.injEq, id_eq, List.all_cons, List.all_nil, List.any_cons, List.any_nil, Bool.and_true, Bool.true_and, Bool.and_false, Bool.false_and, Bool.or_true, Bool.or_false, Bool.true_or, Bool.false_or, Int.reduceAdd, Int.reduceSub, beq_self_eq_true, Option.isNone_none, Option.isNone_some, if_true, if_false, ite_true, ite_false, Nat.succ_eq_add_one, Int.natCast_add, Int.natCast_one, Int.cast_ofNat_Int, List.contains_cons, String.reduceEq, List.take_succ_cons, List.take_zero, List.drop_succ_cons, List.drop_zero, List.take_nil, List.drop_nil, List.replicate, Int.natCast_zero, Int.zero_add])
variable {Γ : Gam} {μ : Mu} {Q : D → Mu → Prop} {E : PX} {b : Cell}
theorem pull_spec {s : Int} (hb : BagOk b) (hs : 0 < s) (hs2 : s < 2 ^ 64) (hq : ∀ r b', 0 ≤ r → r < s → BagOk b' → Q (.int r) (b' :: μ)) : Wf (runF 5 (runs Γ B_pull)) [.cell 0, .int s] (b :: μ) Q E := by
  obtain ⟨ns, i, g, z, k, rfl, h1, h2, h3, h4, h5⟩ := hb
  have fin1 : ∀ {i g z : Int}, 0 ≤ i → 0 < g → 0 ≤ z → z < 2147483563 → Q (.int (g % s)) (.lst [.lst (ns.map D.int), .int i, .int (g / s), .int z, .int k] :: μ) := fun a1 a2 a3 a4 =>
    hq _ _ (Int.emod_nonneg _ (by omega)) (Int.emod_lt_of_pos _ hs) ⟨ns, _, _, _, k, rfl, a1, Int.ediv_nonneg (by omega) (by omega), a3, a4, h5⟩
  have fin2 : ∀ {i g x y : Int}, 0 ≤ i → 0 ≤ g → Q (.int (x % s)) (.lst [.lst (ns.map D.int), .int i, .int g, .int (y % 2147483563), .int (k + 1)] :: μ) := fun a1 a2 =>
    hq _ _ (Int.emod_nonneg _ (by omega)) (Int.emod_lt_of_pos _ hs) ⟨ns, _, _, _, _, rfl, a1, a2, Int.emod_nonneg _ (by omega), Int.emod_lt_of_pos _ (by omega), by omega⟩
  unfold B_pull
  array_get_dec
  refine br_cases (fun e => ?_) (fun e => ?_)
  · array_get_dec
    refine br_cases (fun e2 => ?_) (fun e2 => ?_)
    · have e2 := of_decide_eq_true e2
      have hlt : i.toNat < ns.length := by omega
      simp only [↓br_true, ↓br_false, ↓op_some, ↓wp_bind, ↓wp_pure, ↓wp_fail, ↓wp_opt, ↓wp_guard, ↓wp_v, ↓wp_vB, ↓wp_c, ↓wp_op2, ↓wp_op2L, ↓wp_t, ↓wp_tru, ↓wp_chain, ↓wp_andT, ↓wp_orT, ↓wp_notT, ↓wp_andV, ↓wp_orV, ↓wp_notV, ↓wp_if, ↓wp_nil, ↓wp_cons, ↓wp_tup, ↓wp_lst, ↓wp_D, ↓wp_cb, ↓wp_call, ↓wp_isi, ↓wp_neg, ↓wp_sl, ↓wp_noP, ↓wp_P, ↓wp_yes, ↓wp_items, ↓wp_signs, ↓wp_comp, ↓ws_seq, ↓thn_nx, ↓thn_rt, ↓thn_br, ↓thn_ct, ↓thn_exc, ↓ws_skip, ↓ws_break, ↓ws_cont, ↓ws_retN, ↓ws_set, ↓ws_own, ↓ws_ret, ↓ws_drop, ↓ws_if, ↓ws_asg, ↓ws_par3, ↓ws_par3o, ↓ws_par, ↓ws_setC, ↓wp_newc, ↓ws_app, ↓ws_ext, ↓ws_setI, ↓ws_frz, ↓ws_for, ↓wl_nil, ↓wl_cons, ↓wf_run, ↓retS_nx, ↓retS_rt, ↓lpS_nx, ↓lpS_ct, ↓lpS_br, ↓lpS_rt, ↓turn_nx, ↓turn_ct, ↓turn_br, ↓turn_rt, ↓wp_addI, ↓wp_addS, ↓wp_subI, ↓wp_mulI, ↓wp_divI, ↓wp_modI, ↓wp_powI, ↓wp_cmpI, ↓wp_eq, ↓wp_ne, ↓wp_negI, ↓wp_seqE, ↓wp_lstE, ↓wp_ixL, ↓wp_ixT, ↓wp_ixC, ↓wp_ixS, ↓wp_lenS, ↓wp_lenL, ↓wp_lenT, ↓wp_lenC, ↓wp_absI, ↓wp_intI, ↓wp_intB, ↓wp_intS, ↓wp_strI, ↓wp_boolI, ↓wp_boolB, ↓wp_all, ↓wp_any, ↓wp_sum, ↓wp_max2, ↓wp_min2, ↓wp_list, ↓wp_tuple, ↓wp_sorted, ↓wp_slS, ↓wp_slT, ↓wp_slLD, ↓wp_slC, ↓wp_slL, ↓wp_range1, ↓wp_range2, ↓wp_enum, ↓wp_enumT, ↓wp_zip, ↓wp_zipTT, ↓wp_zipTL, ↓wp_zipLT, ↓wp_cat, ↓wp_rep, ↓wp_inSg, ↓wp_notInSg, ↓wp_inL, ↓wp_inT, ↓wp_notIn, ↓wp_isN, ↓wp_notN, ↓wp_isB, ↓wp_notB, tt1, tt2, tt3, tt4, tt5, tt6, tu1, tu2, tu3, tu4, tu5, tu6, tu7, tu8, tu9, tu10, tu11, tu12, tu13, tu14, tu15, tu16, tu17, tu18, tu19, tu20, tu21, tu22, tu23, tu24, asB_bl, truD_non, truD_bl, truD_int, truD_str, truD_lst, truD_tup, asI_int, asS_str, items_lst, items_tup, items_str, valS_v, valB_v, valB_own, seqD_lst, seqD_tup, seqD_cell0, lstD_lst, lstD_cell0, cellL_0, own_lst, nonB_non, nonB_bl, nonB_int, nonB_str, nonB_lst, nonB_tup, nonB_cell, nonB_obj, bools_nil, bools_cons, ints_nil, ints_cons, eqD_ii, eqD_bb, eqD_ss, eqD_nn, eqD_ni, eqD_in, eqD_nb, eqD_bn, eqD_ns, eqD_sn, eqD_is, eqD_si, eqD_bs, eqD_sb, tag_non, tag_bl, tag_int, tag_str, tag_lst, tag_tup, tag_obj, bindP_nm, bindP_tp, bindP_tl, bindPs_nil, bindPs_cons, ↓wp_get, ↓wp_meth, ↓wp_prop, ↓ws_setF, ↓wp_mk, ↓wp_own, ↓wp_kd, ↓wp_methK, ↓wp_ownNe, ↓wp_own1, ↓wp_ownT, ↓wp_fstr, ↓wp_fFn, ↓wp_fFc, ↓wp_fmtS, ↓wp_fmtI, kok_len, kok_repr, kok_bool, eqD_tt, eqD_ll, plB_non, plB_bl, plB_int, plB_str, plB_lst, plB_tup, eqBs_nn, eqBs_cc, eqBs_nc, eqBs_cn, eqB_ii, eqB_bb, eqB_ss, eqB_nn, eqB_ll, eqB_tt, eqB_ni, eqB_in, eqB_nt, eqB_tn, eqB_it, eqB_ti, ↓wp_addT, ↓wp_addL, ↓wp_mulL, objD_obj, objD_last, cellO_last, set_last, isO_obj, isO_last, putD_nil, putD_cons, lkp_nil, lkp_cons, bel_plain, bels_plain, belF_nil, belF_cons, ↓wp_compN, ↓wp_compC, rng_0, rng_1, rng_2, rng_3, enL_nil, enL_cons, zpL_nil, zpL_nilR, zpL_cons, ↓wp_maxL, ↓wp_minL, maxL_2, maxL_1, minL_2, minL_1, bel_non, bel_bl, bel_int, bel_str, bel_lst, bel_tup, bel_obj, bels_nil, bels_cons, kst_app0, ctl_hi, ctl_lo, ctl_no, kst_inj, ↓wp_rgI1, ↓wp_rgI2, ↓wp_rg1, ↓wp_rg2, ↓wp_callO, kst_beq, ↓ws_appC, ↓wp_compZ, ↓wp_zipM, ↓wp_compLN, ↓wp_compLC, seqD_mL, seqD_mT, seqD_mC, kst_kL, kst_kT, keep_cell, tag_cellL, ↓wp_u, ↓wp_lone, ↓wp_star, dataL_lst, dataL_tup, ↓wp_cu, ↓wp_mu, ↓wp_mku, ↓wp_lmu, isCls_eq, ↓wu_F, ↓wu_S, ↓ws_forM, ↓wfm_lst, ↓wfm_tup, ↓xq_rl0, ↓xq_rl1, ↓xq_raise, ↓xq_exD0, ↓xq_exD1, ↓xq_exS, ↓xq_retS, ↓xq_thn, ↓xq_try, ↓xq_tk_nx, ↓xq_tk_rt, ↓xq_tk_br, ↓xq_tk_ct, ↓xq_tk_exc, ↓xq_ek_nx, ↓xq_ek_rt, ↓xq_xf, ↓xq_xfD, ↓xq_callQ, seqD_cell2, lstD_cell2, cellL_2, seqD_cell3, lstD_cell3, cellL_3, seqD_cell4, lstD_cell4, cellL_4, seqD_cell5, lstD_cell5, cellL_5, ↓xq_inS_nil, ↓xq_inS_cons, ↓xq_cloS, ↓xq_capM, ↓xq_act, ↓xq_lam1, ↓xq_lam2, ↓xq_lam3, ↓xq_lam4, ↓xq_lf, ↓xq_lamF, ↓xq_callZ, ↓xq_lendF, ↓xq_caps_nil, ↓xq_caps, ↓xq_envL_nil, ↓xq_envL, ↓xq_slotL, ↓xq_par2o, ↓xq_inPL, ↓xq_notInPL, ↓xq_clearC, ↓xq_inT, ↓xq_newT, ↓xq_putT, ↓xq_ins, ↓xq_mulT, ↓xq_rev, ↓xq_zip3, kst_rep1, kst_rep2, kst_rep3, kst_rep4, kst_seqL, kst_seqT, zpL_3nil, zpL_3cons, ↓xq_ownOp, ↓xq_ownIn, ↓xq_comp2, EG.runs, EG.run, uOf, ev, evs, evo, evr, evf, mkE, mkL, failL, bopF, copF, bltF, lbltF, env0, wipeE, isiAny, isi1, frzS, Cell.toD, atI_nn, setAt_nn, wp_inSg, Gam.put, clsTab, arrQ, arrP, Pick.of, kwM, rightB, E00, List.map_cons, List.map_nil, List.length_cons, List.length_nil, List.append_nil, List.nil_append, List.cons_append, List.getElem?_cons_zero, List.getElem?_cons_succ, List.getElem?_nil, List.set_cons_zero, List.set_cons_succ, List.filter_cons, List.filter_nil, List.contains_nil, List.elem_nil, Int.reduceNeg, Int.reducePow, nA10, nA2, le_big, Nat.reducePow, Nat.zero_add, Option.map_some, Option.bind_some, Int.reduceLE, Int.reduceToNat, Int.reduceLT, Nat.reduceLT, Nat.reduceAdd, Nat.reduceSub, true_and, and_true, decide_true, decide_false, List.length_append, List.length_map, Nat.reduceLeDiff, Nat.reduceEqDiff, Bool.not_true, Bool.not_false, decide_eq_true_eq, reduceCtorEq, Option.some.injEq, id_eq, List.all_cons, List.all_nil, List.any_cons, List.any_nil, Bool.and_true, Bool.true_and, Bool.and_false, Bool.false_and, Bool.or_true, Bool.or_false, Bool.true_or, Bool.false_or, Int.reduceAdd, Int.reduceSub, beq_self_eq_true, Option.isNone_none, Option.isNone_some, if_true, if_false, ite_true, ite_false, Nat.succ_eq_add_one, Int.natCast_add, Int.natCast_one, Int.cast_ofNat_Int, List.contains_cons, String.reduceEq, List.take_succ_cons, List.take_zero, List.drop_succ_cons, List.drop_zero, List.take_nil, List.drop_nil, List.replicate, Int.natCast_zero, Int.zero_add, atI_nn h1, List.getElem?_map, List.getElem?_eq_getElem hlt]
      refine br_cases (fun e3 => ?_) (fun e3 => ?_)
      · have e3 := of_decide_eq_true e3
        have hp : 0 < ns[i.toNat] := by omega
        array_get_dec
        refine br_cases (fun e4 => ?_) (fun e4 => absurd hp (by simpa using e4))
        array_get_dec
        exact ⟨hs, ⟨hs, hs2⟩, fin1 (by omega) hp h3 h4⟩
      · array_get_dec
        refine ⟨okMul_r (by omega) (by omega), okMul_r (by omega) (by omega), br_cases (fun e4 => ?_) (fun e4 => ?_)⟩
        · have e := of_decide_eq_true e
          have e4 := of_decide_eq_true e4
          omega
        · array_get_dec
          exact ⟨okMul_r (by omega) (by omega), okMul_r (by omega) (by omega), okMul_r (by omega) (by omega), okMul_r (by omega) (by omega), hs, fin2 (by omega) (by omega)⟩
    · array_get_dec
      refine br_cases (fun e4 => ?_) (fun e4 => ?_)
      · have e := of_decide_eq_true e
        have e4 := of_decide_eq_true e4
        omega
      · array_get_dec
        exact ⟨okMul_r (by omega) (by omega), okMul_r (by omega) (by omega), okMul_r (by omega) (by omega), okMul_r (by omega) (by omega), hs, fin2 (by omega) (by omega)⟩
  · have e := of_decide_eq_false e
    array_get_dec
    refine br_cases (fun e4 => ?_) (fun e4 => ?_)
    · have e4 := of_decide_eq_true e4
      array_get_dec
      exact ⟨hs, ⟨hs, hs2⟩, fin1 (by omega) e4 h3 h4⟩
    · have e4 := of_decide_eq_false e4
      omega
/-- a thing out of a list -/
theorem of_spec {xs : List D} {lv : Nat} {F : Fn} (hF : F = runF 5 (runs Γ B_pull)) {Γ' : Gam} (hΓ : Γ'.fns[0]? = some ⟨"_law_pull", 2, F, lv, []⟩) (hb : BagOk b) (h0 : xs ≠ []) (hl : xs.length ≤ 100000) (hq : ∀ d b', d ∈ xs → BagOk b' → Q d (b' :: μ)) : Wf (runF 2 (runs Γ' B_of)) [.cell 0, .lst xs] (b :: μ) Q E := by
  have hp : 0 < xs.length := List.length_pos_iff.mpr h0
  unfold B_of
  simp only [↓br_true, ↓br_false, ↓op_some, ↓wp_bind, ↓wp_pure, ↓wp_fail, ↓wp_opt, ↓wp_guard, ↓wp_v, ↓wp_vB, ↓wp_c, ↓wp_op2, ↓wp_op2L, ↓wp_t, ↓wp_tru, ↓wp_chain, ↓wp_andT, ↓wp_orT, ↓wp_notT, ↓wp_andV, ↓wp_orV, ↓wp_notV, ↓wp_if, ↓wp_nil, ↓wp_cons, ↓wp_tup, ↓wp_lst, ↓wp_D, ↓wp_cb, ↓wp_call, ↓wp_isi, ↓wp_neg, ↓wp_sl, ↓wp_noP, ↓wp_P, ↓wp_yes, ↓wp_items, ↓wp_signs, ↓wp_comp, ↓ws_seq, ↓thn_nx, ↓thn_rt, ↓thn_br, ↓thn_ct, ↓thn_exc, ↓ws_skip, ↓ws_break, ↓ws_cont, ↓ws_retN, ↓ws_set, ↓ws_own, ↓ws_ret, ↓ws_drop, ↓ws_if, ↓ws_asg, ↓ws_par3, ↓ws_par3o, ↓ws_par, ↓ws_setC, ↓wp_newc, ↓ws_app, ↓ws_ext, ↓ws_setI, ↓ws_frz, ↓ws_for, ↓wl_nil, ↓wl_cons, ↓wf_run, ↓retS_nx, ↓retS_rt, ↓lpS_nx, ↓lpS_ct, ↓lpS_br, ↓lpS_rt, ↓turn_nx, ↓turn_ct, ↓turn_br, ↓turn_rt, ↓wp_addI, ↓wp_addS, ↓wp_subI, ↓wp_mulI, ↓wp_divI, ↓wp_modI, ↓wp_powI, ↓wp_cmpI, ↓wp_eq, ↓wp_ne, ↓wp_negI, ↓wp_seqE, ↓wp_lstE, ↓wp_ixL, ↓wp_ixT, ↓wp_ixC, ↓wp_ixS, ↓wp_lenS, ↓wp_lenL, ↓wp_lenT, ↓wp_lenC, ↓wp_absI, ↓wp_intI, ↓wp_intB, ↓wp_intS, ↓wp_strI, ↓wp_boolI, ↓wp_boolB, ↓wp_all, ↓wp_any, ↓wp_sum, ↓wp_max2, ↓wp_min2, ↓wp_list, ↓wp_tuple, ↓wp_sorted, ↓wp_slS, ↓wp_slT, ↓wp_slLD, ↓wp_slC, ↓wp_slL, ↓wp_range1, ↓wp_range2, ↓wp_enum, ↓wp_enumT, ↓wp_zip, ↓wp_zipTT, ↓wp_zipTL, ↓wp_zipLT, ↓wp_cat, ↓wp_rep, ↓wp_inSg, ↓wp_notInSg, ↓wp_inL, ↓wp_inT, ↓wp_notIn, ↓wp_isN, ↓wp_notN, ↓wp_isB, ↓wp_notB, tt1, tt2, tt3, tt4, tt5, tt6, tu1, tu2, tu3, tu4, tu5, tu6, tu7, tu8, tu9, tu10, tu11, tu12, tu13, tu14, tu15, tu16, tu17, tu18, tu19, tu20, tu21, tu22, tu23, tu24, asB_bl, truD_non, truD_bl, truD_int, truD_str, truD_lst, truD_tup, asI_int, asS_str, items_lst, items_tup, items_str, valS_v, valB_v, valB_own, seqD_lst, seqD_tup, seqD_cell0, lstD_lst, lstD_cell0, cellL_0, own_lst, nonB_non, nonB_bl, nonB_int, nonB_str, nonB_lst, nonB_tup, nonB_cell, nonB_obj, bools_nil, bools_cons, ints_nil, ints_cons, eqD_ii, eqD_bb, eqD_ss, eqD_nn, eqD_ni, eqD_in, eqD_nb, eqD_bn, eqD_ns, eqD_sn, eqD_is, eqD_si, eqD_bs, eqD_sb, tag_non, tag_bl, tag_int, tag_str, tag_lst, tag_tup, tag_obj, bindP_nm, bindP_tp, bindP_tl, bindPs_nil, bindPs_cons, ↓wp_get, ↓wp_meth, ↓wp_prop, ↓ws_setF, ↓wp_mk, ↓wp_own, ↓wp_kd, ↓wp_methK, ↓wp_ownNe, ↓wp_own1, ↓wp_ownT, ↓wp_fstr, ↓wp_fFn, ↓wp_fFc, ↓wp_fmtS, ↓wp_fmtI, kok_len, kok_repr, kok_bool, eqD_tt, eqD_ll, plB_non, plB_bl, plB_int, plB_str, plB_lst, plB_tup, eqBs_nn, eqBs_cc, eqBs_nc, eqBs_cn, eqB_ii, eqB_bb, eqB_ss, eqB_nn, eqB_ll, eqB_tt, eqB_ni, eqB_in, eqB_nt, eqB_tn, eqB_it, eqB_ti, ↓wp_addT, ↓wp_addL, ↓wp_mulL, objD_obj, objD_last, cellO_last, set_last, isO_obj, isO_last, putD_nil, putD_cons, lkp_nil, lkp_cons, bel_plain, bels_plain, belF_nil, belF_cons, ↓wp_compN, ↓wp_compC, rng_0, rng_1, rng_2, rng_3, enL_nil, enL_cons, zpL_nil, zpL_nilR, zpL_cons, ↓wp_maxL, ↓wp_minL, maxL_2, maxL_1, minL_2, minL_1, bel_non, bel_bl, bel_int, bel_str, bel_lst, bel_tup, bel_obj, bels_nil, bels_cons, kst_app0, ctl_hi, ctl_lo, ctl_no, kst_inj, ↓wp_rgI1, ↓wp_rgI2, ↓wp_rg1, ↓wp_rg2, ↓wp_callO, kst_beq, ↓ws_appC, ↓wp_compZ, ↓wp_zipM, ↓wp_compLN, ↓wp_compLC, seqD_mL, seqD_mT, seqD_mC, kst_kL, kst_kT, keep_cell, tag_cellL, ↓wp_u, ↓wp_lone, ↓wp_star, dataL_lst, dataL_tup, ↓wp_cu, ↓wp_mu, ↓wp_mku, ↓wp_lmu, isCls_eq, ↓wu_F, ↓wu_S, ↓ws_forM, ↓wfm_lst, ↓wfm_tup, ↓xq_rl0, ↓xq_rl1, ↓xq_raise, ↓xq_exD0, ↓xq_exD1, ↓xq_exS, ↓xq_retS, ↓xq_thn, ↓xq_try, ↓xq_tk_nx, ↓xq_tk_rt, ↓xq_tk_br, ↓xq_tk_ct, ↓xq_tk_exc, ↓xq_ek_nx, ↓xq_ek_rt, ↓xq_xf, ↓xq_xfD, ↓xq_callQ, seqD_cell2, lstD_cell2, cellL_2, seqD_cell3, lstD_cell3, cellL_3, seqD_cell4, lstD_cell4, cellL_4, seqD_cell5, lstD_cell5, cellL_5, ↓xq_inS_nil, ↓xq_inS_cons, ↓xq_cloS, ↓xq_capM, ↓xq_act, ↓xq_lam1, ↓xq_lam2, ↓xq_lam3, ↓xq_lam4, ↓xq_lf, ↓xq_lamF, ↓xq_callZ, ↓xq_lendF, ↓xq_caps_nil, ↓xq_caps, ↓xq_envL_nil, ↓xq_envL, ↓xq_slotL, ↓xq_par2o, ↓xq_inPL, ↓xq_notInPL, ↓xq_clearC, ↓xq_inT, ↓xq_newT, ↓xq_putT, ↓xq_ins, ↓xq_mulT, ↓xq_rev, ↓xq_zip3, kst_rep1, kst_rep2, kst_rep3, kst_rep4, kst_seqL, kst_seqT, zpL_3nil, zpL_3cons, ↓xq_ownOp, ↓xq_ownIn, ↓xq_comp2, EG.runs, EG.run, uOf, ev, evs, evo, evr, evf, mkE, mkL, failL, bopF, copF, bltF, lbltF, env0, wipeE, isiAny, isi1, frzS, Cell.toD, atI_nn, setAt_nn, wp_inSg, Gam.put, clsTab, arrQ, arrP, Pick.of, kwM, rightB, E00, List.map_cons, List.map_nil, List.length_cons, List.length_nil, List.append_nil, List.nil_append, List.cons_append, List.getElem?_cons_zero, List.getElem?_cons_succ, List.getElem?_nil, List.set_cons_zero, List.set_cons_succ, List.filter_cons, List.filter_nil, List.contains_nil, List.elem_nil, Int.reduceNeg, Int.reducePow, nA10, nA2, le_big, Nat.reducePow, Nat.zero_add, Option.map_some, Option.bind_some, Int.reduceLE, Int.reduceToNat, Int.reduceLT, Nat.reduceLT, Nat.reduceAdd, Nat.reduceSub, true_and, and_true, decide_true, decide_false, List.length_append, List.length_map, Nat.reduceLeDiff, Nat.reduceEqDiff, Bool.not_true, Bool.not_false, decide_eq_true_eq, reduceCtorEq, Option.some.injEq, id_eq, List.all_cons, List.all_nil, List.any_cons, List.any_nil, Bool.and_true, Bool.true_and, Bool.and_false, Bool.false_and, Bool.or_true, Bool.or_false, Bool.true_or, Bool.false_or, Int.reduceAdd, Int.reduceSub, beq_self_eq_true, Option.isNone_none, Option.isNone_some, if_true, if_false, ite_true, ite_false, Nat.succ_eq_add_one, Int.natCast_add, Int.natCast_one, Int.cast_ofNat_Int, List.contains_cons, String.reduceEq, List.take_succ_cons, List.take_zero, List.drop_succ_cons, List.drop_zero, List.take_nil, List.drop_nil, List.replicate, Int.natCast_zero, Int.zero_add, hΓ]
  subst hF
  refine pull_spec (s := xs.length) hb (by omega) (by omega) fun r b' r1 r2 hb' => ?_
  have hlt : r.toNat < xs.length := by omega
  simp only [↓br_true, ↓br_false, ↓op_some, ↓wp_bind, ↓wp_pure, ↓wp_fail, ↓wp_opt, ↓wp_guard, ↓wp_v, ↓wp_vB, ↓wp_c, ↓wp_op2, ↓wp_op2L, ↓wp_t, ↓wp_tru, ↓wp_chain, ↓wp_andT, ↓wp_orT, ↓wp_notT, ↓wp_andV, ↓wp_orV, ↓wp_notV, ↓wp_if, ↓wp_nil, ↓wp_cons, ↓wp_tup, ↓wp_lst, ↓wp_D, ↓wp_cb, ↓wp_call, ↓wp_isi, ↓wp_neg, ↓wp_sl, ↓wp_noP, ↓wp_P, ↓wp_yes, ↓wp_items, ↓wp_signs, ↓wp_comp, ↓ws_seq, ↓thn_nx, ↓thn_rt, ↓thn_br, ↓thn_ct, ↓thn_exc, ↓ws_skip, ↓ws_break, ↓ws_cont, ↓ws_retN, ↓ws_set, ↓ws_own, ↓ws_ret, ↓ws_drop, ↓ws_if, ↓ws_asg, ↓ws_par3, ↓ws_par3o, ↓ws_par, ↓ws_setC, ↓wp_newc, ↓ws_app, ↓ws_ext, ↓ws_setI, ↓ws_frz, ↓ws_for, ↓wl_nil, ↓wl_cons, ↓wf_run, ↓retS_nx, ↓retS_rt, ↓lpS_nx, ↓lpS_ct, ↓lpS_br, ↓lpS_rt, ↓turn_nx, ↓turn_ct, ↓turn_br, ↓turn_rt, ↓wp_addI, ↓wp_addS, ↓wp_subI, ↓wp_mulI, ↓wp_divI, ↓wp_modI, ↓wp_powI, ↓wp_cmpI, ↓wp_eq, ↓wp_ne, ↓wp_negI, ↓wp_seqE, ↓wp_lstE, ↓wp_ixL, ↓wp_ixT, ↓wp_ixC, ↓wp_ixS, ↓wp_lenS, ↓wp_lenL, ↓wp_lenT, ↓wp_lenC, ↓wp_absI, ↓wp_intI, ↓wp_intB, ↓wp_intS, ↓wp_strI, ↓wp_boolI, ↓wp_boolB, ↓wp_all, ↓wp_any, ↓wp_sum, ↓wp_max2, ↓wp_min2, ↓wp_list, ↓wp_tuple, ↓wp_sorted, ↓wp_slS, ↓wp_slT, ↓wp_slLD, ↓wp_slC, ↓wp_slL, ↓wp_range1, ↓wp_range2, ↓wp_enum, ↓wp_enumT, ↓wp_zip, ↓wp_zipTT, ↓wp_zipTL, ↓wp_zipLT, ↓wp_cat, ↓wp_rep, ↓wp_inSg, ↓wp_notInSg, ↓wp_inL, ↓wp_inT, ↓wp_notIn, ↓wp_isN, ↓wp_notN, ↓wp_isB, ↓wp_notB, tt1, tt2, tt3, tt4, tt5, tt6, tu1, tu2, tu3, tu4, tu5, tu6, tu7, tu8, tu9, tu10, tu11, tu12, tu13, tu14, tu15, tu16, tu17, tu18, tu19, tu20, tu21, tu22, tu23, tu24, asB_bl, truD_non, truD_bl, truD_int, truD_str, truD_lst, truD_tup, asI_int, asS_str, items_lst, items_tup, items_str, valS_v, valB_v, valB_own, seqD_lst, seqD_tup, seqD_cell0, lstD_lst, lstD_cell0, cellL_0, own_lst, nonB_non, nonB_bl, nonB_int, nonB_str, nonB_lst, nonB_tup, nonB_cell, nonB_obj, bools_nil, bools_cons, ints_nil, ints_cons, eqD_ii, eqD_bb, eqD_ss, eqD_nn, eqD_ni, eqD_in, eqD_nb, eqD_bn, eqD_ns, eqD_sn, eqD_is, eqD_si, eqD_bs, eqD_sb, tag_non, tag_bl, tag_int, tag_str, tag_lst, tag_tup, tag_obj, bindP_nm, bindP_tp, bindP_tl, bindPs_nil, bindPs_cons, ↓wp_get, ↓wp_meth, ↓wp_prop, ↓ws_setF, ↓wp_mk, ↓wp_own, ↓wp_kd, ↓wp_methK, ↓wp_ownNe, ↓wp_own1, ↓wp_ownT, ↓wp_fstr, ↓wp_fFn, ↓wp_fFc, ↓wp_fmtS, ↓wp_fmtI, kok_len, kok_repr, kok_bool, eqD_tt, eqD_ll, plB_non, plB_bl, plB_int, plB_str, plB_lst, plB_tup, eqBs_nn, eqBs_cc, eqBs_nc, eqBs_cn, eqB_ii, eqB_bb, eqB_ss, eqB_nn, eqB_ll, eqB_tt, eqB_ni, eqB_in, eqB_nt, eqB_tn, eqB_it, eqB_ti, ↓wp_addT, ↓wp_addL, ↓wp_mulL, objD_obj, objD_last, cellO_last, set_last, isO_obj, isO_last, putD_nil, putD_cons, lkp_nil, lkp_cons, bel_plain, bels_plain, belF_nil, belF_cons, ↓wp_compN, ↓wp_compC, rng_0, rng_1, rng_2, rng_3, enL_nil, enL_cons, zpL_nil, zpL_nilR, zpL_cons, ↓wp_maxL, ↓wp_minL, maxL_2, maxL_1, minL_2, minL_1, bel_non, bel_bl, bel_int, bel_str, bel_lst, bel_tup, bel_obj, bels_nil, bels_cons, kst_app0, ctl_hi, ctl_lo, ctl_no, kst_inj, ↓wp_rgI1, ↓wp_rgI2, ↓wp_rg1, ↓wp_rg2, ↓wp_callO, kst_beq, ↓ws_appC, ↓wp_compZ, ↓wp_zipM, ↓wp_compLN, ↓wp_compLC, seqD_mL, seqD_mT, seqD_mC, kst_kL, kst_kT, keep_cell, tag_cellL, ↓wp_u, ↓wp_lone, ↓wp_star, dataL_lst, dataL_tup, ↓wp_cu, ↓wp_mu, ↓wp_mku, ↓wp_lmu, isCls_eq, ↓wu_F, ↓wu_S, ↓ws_forM, ↓wfm_lst, ↓wfm_tup, ↓xq_rl0, ↓xq_rl1, ↓xq_raise, ↓xq_exD0, ↓xq_exD1, ↓xq_exS, ↓xq_retS, ↓xq_thn, ↓xq_try, ↓xq_tk_nx, ↓xq_tk_rt, ↓xq_tk_br, ↓xq_tk_ct, ↓xq_tk_exc, ↓xq_ek_nx, ↓xq_ek_rt, ↓xq_xf, ↓xq_xfD, ↓xq_callQ, seqD_cell2, lstD_cell2, cellL_2, seqD_cell3, lstD_cell3, cellL_3, seqD_cell4, lstD_cell4, cellL_4, seqD_cell5, lstD_cell5, cellL_5, ↓xq_inS_nil, ↓xq_inS_cons, ↓xq_cloS, ↓xq_capM, ↓xq_act, ↓xq_lam1, ↓xq_lam2, ↓xq_lam3, ↓xq_lam4, ↓xq_lf, ↓xq_lamF, ↓xq_callZ, ↓xq_lendF, ↓xq_caps_nil, ↓xq_caps, ↓xq_envL_nil, ↓xq_envL, ↓xq_slotL, ↓xq_par2o, ↓xq_inPL, ↓xq_notInPL, ↓xq_clearC, ↓xq_inT, ↓xq_newT, ↓xq_putT, ↓xq_ins, ↓xq_mulT, ↓xq_rev, ↓xq_zip3, kst_rep1, kst_rep2, kst_rep3, kst_rep4, kst_seqL, kst_seqT, zpL_3nil, zpL_3cons, ↓xq_ownOp, ↓xq_ownIn, ↓xq_comp2, EG.runs, EG.run, uOf, ev, evs, evo, evr, evf, mkE, mkL, failL, bopF, copF, bltF, lbltF, env0, wipeE, isiAny, isi1, frzS, Cell.toD, atI_nn, setAt_nn, wp_inSg, Gam.put, clsTab, arrQ, arrP, Pick.of, kwM, rightB, E00, List.map_cons, List.map_nil, List.length_cons, List.length_nil, List.append_nil, List.nil_append, List.cons_append, List.getElem?_cons_zero, List.getElem?_cons_succ, List.getElem?_nil, List.set_cons_zero, List.set_cons_succ, List.filter_cons, List.filter_nil, List.contains_nil, List.elem_nil, Int.reduceNeg, Int.reducePow, nA10, nA2, le_big, Nat.reducePow, Nat.zero_add, Option.map_some, Option.bind_some, Int.reduceLE, Int.reduceToNat, Int.reduceLT, Nat.reduceLT, Nat.reduceAdd, Nat.reduceSub, true_and, and_true, decide_true, decide_false, List.length_append, List.length_map, Nat.reduceLeDiff, Nat.reduceEqDiff, Bool.not_true, Bool.not_false, decide_eq_true_eq, reduceCtorEq, Option.some.injEq, id_eq, List.all_cons, List.all_nil, List.any_cons, List.any_nil, Bool.and_true, Bool.true_and, Bool.and_false, Bool.false_and, Bool.or_true, Bool.or_false, Bool.true_or, Bool.false_or, Int.reduceAdd, Int.reduceSub, beq_self_eq_true, Option.isNone_none, Option.isNone_some, if_true, if_false, ite_true, ite_false, Nat.succ_eq_add_one, Int.natCast_add, Int.natCast_one, Int.cast_ofNat_Int, List.contains_cons, String.reduceEq, List.take_succ_cons, List.take_zero, List.drop_succ_cons, List.drop_zero, List.take_nil, List.drop_nil, List.replicate, Int.natCast_zero, Int.zero_add, atI_nn r1, List.getElem?_eq_getElem hlt]
  exact hq _ _ (List.getElem_mem hlt) hb'
theorem cut_ints (ns : List Int) (hi : Option Int) : ∃ ms : List Int, cutL (ns.map D.int) none hi = ms.map D.int := ⟨ns.take (HT.sIx ns.length ns.length hi), by
  unfold cutL
  simp [HT.sIx_none, List.map_take]⟩
/-- the bag out of the script -/
theorem bag_spec {ns : List Int} (hq : ∀ b', BagOk b' → Q (.cell 0) [b']) : Wf (runF 3 (runs Γ B_bag)) [.scr ns] [] Q E := by
  obtain ⟨ms, hm⟩ := cut_ints ns (some 63)
  unfold B_bag
  simp only [↓br_true, ↓br_false, ↓op_some, ↓wp_bind, ↓wp_pure, ↓wp_fail, ↓wp_opt, ↓wp_guard, ↓wp_v, ↓wp_vB, ↓wp_c, ↓wp_op2, ↓wp_op2L, ↓wp_t, ↓wp_tru, ↓wp_chain, ↓wp_andT, ↓wp_orT, ↓wp_notT, ↓wp_andV, ↓wp_orV, ↓wp_notV, ↓wp_if, ↓wp_nil, ↓wp_cons, ↓wp_tup, ↓wp_lst, ↓wp_D, ↓wp_cb, ↓wp_call, ↓wp_isi, ↓wp_neg, ↓wp_sl, ↓wp_noP, ↓wp_P, ↓wp_yes, ↓wp_items, ↓wp_signs, ↓wp_comp, ↓ws_seq, ↓thn_nx, ↓thn_rt, ↓thn_br, ↓thn_ct, ↓thn_exc, ↓ws_skip, ↓ws_break, ↓ws_cont, ↓ws_retN, ↓ws_set, ↓ws_own, ↓ws_ret, ↓ws_drop, ↓ws_if, ↓ws_asg, ↓ws_par3, ↓ws_par3o, ↓ws_par, ↓ws_setC, ↓wp_newc, ↓ws_app, ↓ws_ext, ↓ws_setI, ↓ws_frz, ↓ws_for, ↓wl_nil, ↓wl_cons, ↓wf_run, ↓retS_nx, ↓retS_rt, ↓lpS_nx, ↓lpS_ct, ↓lpS_br, ↓lpS_rt, ↓turn_nx, ↓turn_ct, ↓turn_br, ↓turn_rt, ↓wp_addI, ↓wp_addS, ↓wp_subI, ↓wp_mulI, ↓wp_divI, ↓wp_modI, ↓wp_powI, ↓wp_cmpI, ↓wp_eq, ↓wp_ne, ↓wp_negI, ↓wp_seqE, ↓wp_lstE, ↓wp_ixL, ↓wp_ixT, ↓wp_ixC, ↓wp_ixS, ↓wp_lenS, ↓wp_lenL, ↓wp_lenT, ↓wp_lenC, ↓wp_absI, ↓wp_intI, ↓wp_intB, ↓wp_intS, ↓wp_strI, ↓wp_boolI, ↓wp_boolB, ↓wp_all, ↓wp_any, ↓wp_sum, ↓wp_max2, ↓wp_min2, ↓wp_list, ↓wp_tuple, ↓wp_sorted, ↓wp_slS, ↓wp_slT, ↓wp_slLD, ↓wp_slC, ↓wp_slL, ↓wp_range1, ↓wp_range2, ↓wp_enum, ↓wp_enumT, ↓wp_zip, ↓wp_zipTT, ↓wp_zipTL, ↓wp_zipLT, ↓wp_cat, ↓wp_rep, ↓wp_inSg, ↓wp_notInSg, ↓wp_inL, ↓wp_inT, ↓wp_notIn, ↓wp_isN, ↓wp_notN, ↓wp_isB, ↓wp_notB, tt1, tt2, tt3, tt4, tt5, tt6, tu1, tu2, tu3, tu4, tu5, tu6, tu7, tu8, tu9, tu10, tu11, tu12, tu13, tu14, tu15, tu16, tu17, tu18, tu19, tu20, tu21, tu22, tu23, tu24, asB_bl, truD_non, truD_bl, truD_int, truD_str, truD_lst, truD_tup, asI_int, asS_str, items_lst, items_tup, items_str, valS_v, valB_v, valB_own, seqD_lst, seqD_tup, seqD_cell0, lstD_lst, lstD_cell0, cellL_0, own_lst, nonB_non, nonB_bl, nonB_int, nonB_str, nonB_lst, nonB_tup, nonB_cell, nonB_obj, bools_nil, bools_cons, ints_nil, ints_cons, eqD_ii, eqD_bb, eqD_ss, eqD_nn, eqD_ni, eqD_in, eqD_nb, eqD_bn, eqD_ns, eqD_sn, eqD_is, eqD_si, eqD_bs, eqD_sb, tag_non, tag_bl, tag_int, tag_str, tag_lst, tag_tup, tag_obj, bindP_nm, bindP_tp, bindP_tl, bindPs_nil, bindPs_cons, ↓wp_get, ↓wp_meth, ↓wp_prop, ↓ws_setF, ↓wp_mk, ↓wp_own, ↓wp_kd, ↓wp_methK, ↓wp_ownNe, ↓wp_own1, ↓wp_ownT, ↓wp_fstr, ↓wp_fFn, ↓wp_fFc, ↓wp_fmtS, ↓wp_fmtI, kok_len, kok_repr, kok_bool, eqD_tt, eqD_ll, plB_non, plB_bl, plB_int, plB_str, plB_lst, plB_tup, eqBs_nn, eqBs_cc, eqBs_nc, eqBs_cn, eqB_ii, eqB_bb, eqB_ss, eqB_nn, eqB_ll, eqB_tt, eqB_ni, eqB_in, eqB_nt, eqB_tn, eqB_it, eqB_ti, ↓wp_addT, ↓wp_addL, ↓wp_mulL, objD_obj, objD_last, cellO_last, set_last, isO_obj, isO_last, putD_nil, putD_cons, lkp_nil, lkp_cons, bel_plain, bels_plain, belF_nil, belF_cons, ↓wp_compN, ↓wp_compC, rng_0, rng_1, rng_2, rng_3, enL_nil, enL_cons, zpL_nil, zpL_nilR, zpL_cons, ↓wp_maxL, ↓wp_minL, maxL_2, maxL_1, minL_2, minL_1, bel_non, bel_bl, bel_int, bel_str, bel_lst, bel_tup, bel_obj, bels_nil, bels_cons, kst_app0, ctl_hi, ctl_lo, ctl_no, kst_inj, ↓wp_rgI1, ↓wp_rgI2, ↓wp_rg1, ↓wp_rg2, ↓wp_callO, kst_beq, ↓ws_appC, ↓wp_compZ, ↓wp_zipM, ↓wp_compLN, ↓wp_compLC, seqD_mL, seqD_mT, seqD_mC, kst_kL, kst_kT, keep_cell, tag_cellL, ↓wp_u, ↓wp_lone, ↓wp_star, dataL_lst, dataL_tup, ↓wp_cu, ↓wp_mu, ↓wp_mku, ↓wp_lmu, isCls_eq, ↓wu_F, ↓wu_S, ↓ws_forM, ↓wfm_lst, ↓wfm_tup, ↓xq_rl0, ↓xq_rl1, ↓xq_raise, ↓xq_exD0, ↓xq_exD1, ↓xq_exS, ↓xq_retS, ↓xq_thn, ↓xq_try, ↓xq_tk_nx, ↓xq_tk_rt, ↓xq_tk_br, ↓xq_tk_ct, ↓xq_tk_exc, ↓xq_ek_nx, ↓xq_ek_rt, ↓xq_xf, ↓xq_xfD, ↓xq_callQ, seqD_cell2, lstD_cell2, cellL_2, seqD_cell3, lstD_cell3, cellL_3, seqD_cell4, lstD_cell4, cellL_4, seqD_cell5, lstD_cell5, cellL_5, ↓xq_inS_nil, ↓xq_inS_cons, ↓xq_cloS, ↓xq_capM, ↓xq_act, ↓xq_lam1, ↓xq_lam2, ↓xq_lam3, ↓xq_lam4, ↓xq_lf, ↓xq_lamF, ↓xq_callZ, ↓xq_lendF, ↓xq_caps_nil, ↓xq_caps, ↓xq_envL_nil, ↓xq_envL, ↓xq_slotL, ↓xq_par2o, ↓xq_inPL, ↓xq_notInPL, ↓xq_clearC, ↓xq_inT, ↓xq_newT, ↓xq_putT, ↓xq_ins, ↓xq_mulT, ↓xq_rev, ↓xq_zip3, kst_rep1, kst_rep2, kst_rep3, kst_rep4, kst_seqL, kst_seqT, zpL_3nil, zpL_3cons, ↓xq_ownOp, ↓xq_ownIn, ↓xq_comp2, EG.runs, EG.run, uOf, ev, evs, evo, evr, evf, mkE, mkL, failL, bopF, copF, bltF, lbltF, env0, wipeE, isiAny, isi1, frzS, Cell.toD, atI_nn, setAt_nn, wp_inSg, Gam.put, clsTab, arrQ, arrP, Pick.of, kwM, rightB, E00, List.map_cons, List.map_nil, List.length_cons, List.length_nil, List.append_nil, List.nil_append, List.cons_append, List.getElem?_cons_zero, List.getElem?_cons_succ, List.getElem?_nil, List.set_cons_zero, List.set_cons_succ, List.filter_cons, List.filter_nil, List.contains_nil, List.elem_nil, Int.reduceNeg, Int.reducePow, nA10, nA2, le_big, Nat.reducePow, Nat.zero_add, Option.map_some, Option.bind_some, Int.reduceLE, Int.reduceToNat, Int.reduceLT, Nat.reduceLT, Nat.reduceAdd, Nat.reduceSub, true_and, and_true, decide_true, decide_false, List.length_append, List.length_map, Nat.reduceLeDiff, Nat.reduceEqDiff, Bool.not_true, Bool.not_false, decide_eq_true_eq, reduceCtorEq, Option.some.injEq, id_eq, List.all_cons, List.all_nil, List.any_cons, List.any_nil, Bool.and_true, Bool.true_and, Bool.and_false, Bool.false_and, Bool.or_true, Bool.or_false, Bool.true_or, Bool.false_or, Int.reduceAdd, Int.reduceSub, beq_self_eq_true, Option.isNone_none, Option.isNone_some, if_true, if_false, ite_true, ite_false, Nat.succ_eq_add_one, Int.natCast_add, Int.natCast_one, Int.cast_ofNat_Int, List.contains_cons, String.reduceEq, List.take_succ_cons, List.take_zero, List.drop_succ_cons, List.drop_zero, List.take_nil, List.drop_nil, List.replicate, Int.natCast_zero, Int.zero_add, hm]
  refine wl_inv (fun r env μ => (∃ ks : List Int, r = ks.map D.int) ∧ μ = [] ∧ ∃ (z : Int) (s : Slot), 0 ≤ z ∧ z < 2147483563 ∧ env = [.v (.scr ns), .v (.int z), s]) ?_ ?_ _ _ _ ⟨⟨ms, rfl⟩, rfl, 10016, _, by decide, by decide, rfl⟩
  · rintro d r env μ ⟨⟨ks, hk⟩, rfl, z, s, h1, h2, rfl⟩
    cases ks with
    | nil => cases hk
    | cons k ks =>
      cases hk
      refine ⟨_, bindP_nm, ?_⟩
      array_get_dec
      exact ⟨okMul_r (by omega) (by omega), ⟨ks, rfl⟩, _, _, Int.emod_nonneg _ (by omega), Int.emod_lt_of_pos _ (by omega), rfl⟩
  · rintro env μ ⟨_, rfl, z, s, h1, h2, rfl⟩
    simp only [↓br_true, ↓br_false, ↓op_some, ↓wp_bind, ↓wp_pure, ↓wp_fail, ↓wp_opt, ↓wp_guard, ↓wp_v, ↓wp_vB, ↓wp_c, ↓wp_op2, ↓wp_op2L, ↓wp_t, ↓wp_tru, ↓wp_chain, ↓wp_andT, ↓wp_orT, ↓wp_notT, ↓wp_andV, ↓wp_orV, ↓wp_notV, ↓wp_if, ↓wp_nil, ↓wp_cons, ↓wp_tup, ↓wp_lst, ↓wp_D, ↓wp_cb, ↓wp_call, ↓wp_isi, ↓wp_neg, ↓wp_sl, ↓wp_noP, ↓wp_P, ↓wp_yes, ↓wp_items, ↓wp_signs, ↓wp_comp, ↓ws_seq, ↓thn_nx, ↓thn_rt, ↓thn_br, ↓thn_ct, ↓thn_exc, ↓ws_skip, ↓ws_break, ↓ws_cont, ↓ws_retN, ↓ws_set, ↓ws_own, ↓ws_ret, ↓ws_drop, ↓ws_if, ↓ws_asg, ↓ws_par3, ↓ws_par3o, ↓ws_par, ↓ws_setC, ↓wp_newc, ↓ws_app, ↓ws_ext, ↓ws_setI, ↓ws_frz, ↓ws_for, ↓wl_nil, ↓wl_cons, ↓wf_run, ↓retS_nx, ↓retS_rt, ↓lpS_nx, ↓lpS_ct, ↓lpS_br, ↓lpS_rt, ↓turn_nx, ↓turn_ct, ↓turn_br, ↓turn_rt, ↓wp_addI, ↓wp_addS, ↓wp_subI, ↓wp_mulI, ↓wp_divI, ↓wp_modI, ↓wp_powI, ↓wp_cmpI, ↓wp_eq, ↓wp_ne, ↓wp_negI, ↓wp_seqE, ↓wp_lstE, ↓wp_ixL, ↓wp_ixT, ↓wp_ixC, ↓wp_ixS, ↓wp_lenS, ↓wp_lenL, ↓wp_lenT, ↓wp_lenC, ↓wp_absI, ↓wp_intI, ↓wp_intB, ↓wp_intS, ↓wp_strI, ↓wp_boolI, ↓wp_boolB, ↓wp_all, ↓wp_any, ↓wp_sum, ↓wp_max2, ↓wp_min2, ↓wp_list, ↓wp_tuple, ↓wp_sorted, ↓wp_slS, ↓wp_slT, ↓wp_slLD, ↓wp_slC, ↓wp_slL, ↓wp_range1, ↓wp_range2, ↓wp_enum, ↓wp_enumT, ↓wp_zip, ↓wp_zipTT, ↓wp_zipTL, ↓wp_zipLT, ↓wp_cat, ↓wp_rep, ↓wp_inSg, ↓wp_notInSg, ↓wp_inL, ↓wp_inT, ↓wp_notIn, ↓wp_isN, ↓wp_notN, ↓wp_isB, ↓wp_notB, tt1, tt2, tt3, tt4, tt5, tt6, tu1, tu2, tu3, tu4, tu5, tu6, tu7, tu8, tu9, tu10, tu11, tu12, tu13, tu14, tu15, tu16, tu17, tu18, tu19, tu20, tu21, tu22, tu23, tu24, asB_bl, truD_non, truD_bl, truD_int, truD_str, truD_lst, truD_tup, asI_int, asS_str, items_lst, items_tup, items_str, valS_v, valB_v, valB_own, seqD_lst, seqD_tup, seqD_cell0, lstD_lst, lstD_cell0, cellL_0, own_lst, nonB_non, nonB_bl, nonB_int, nonB_str, nonB_lst, nonB_tup, nonB_cell, nonB_obj, bools_nil, bools_cons, ints_nil, ints_cons, eqD_ii, eqD_bb, eqD_ss, eqD_nn, eqD_ni, eqD_in, eqD_nb, eqD_bn, eqD_ns, eqD_sn, eqD_is, eqD_si, eqD_bs, eqD_sb, tag_non, tag_bl, tag_int, tag_str, tag_lst, tag_tup, tag_obj, bindP_nm, bindP_tp, bindP_tl, bindPs_nil, bindPs_cons, ↓wp_get, ↓wp_meth, ↓wp_prop, ↓ws_setF, ↓wp_mk, ↓wp_own, ↓wp_kd, ↓wp_methK, ↓wp_ownNe, ↓wp_own1, ↓wp_ownT, ↓wp_fstr, ↓wp_fFn, ↓wp_fFc, ↓wp_fmtS, ↓wp_fmtI, kok_len, kok_repr, kok_bool, eqD_tt, eqD_ll, plB_non, plB_bl, plB_int, plB_str, plB_lst, plB_tup, eqBs_nn, eqBs_cc, eqBs_nc, eqBs_cn, eqB_ii, eqB_bb, eqB_ss, eqB_nn, eqB_ll, eqB_tt, eqB_ni, eqB_in, eqB_nt, eqB_tn, eqB_it, eqB_ti, ↓wp_addT, ↓wp_addL, ↓wp_mulL, objD_obj, objD_last, cellO_last, set_last, isO_obj, isO_last, putD_nil, putD_cons, lkp_nil, lkp_cons, bel_plain, bels_plain, belF_nil, belF_cons, ↓wp_compN, ↓wp_compC, rng_0, rng_1, rng_2, rng_3, enL_nil, enL_cons, zpL_nil, zpL_nilR, zpL_cons, ↓wp_maxL, ↓wp_minL, maxL_2, maxL_1, minL_2, minL_1, bel_non, bel_bl, bel_int, bel_str, bel_lst, bel_tup, bel_obj, bels_nil, bels_cons, kst_app0, ctl_hi, ctl_lo, ctl_no, kst_inj, ↓wp_rgI1, ↓wp_rgI2, ↓wp_rg1, ↓wp_rg2, ↓wp_callO, kst_beq, ↓ws_appC, ↓wp_compZ, ↓wp_zipM, ↓wp_compLN, ↓wp_compLC, seqD_mL, seqD_mT, seqD_mC, kst_kL, kst_kT, keep_cell, tag_cellL, ↓wp_u, ↓wp_lone, ↓wp_star, dataL_lst, dataL_tup, ↓wp_cu, ↓wp_mu, ↓wp_mku, ↓wp_lmu, isCls_eq, ↓wu_F, ↓wu_S, ↓ws_forM, ↓wfm_lst, ↓wfm_tup, ↓xq_rl0, ↓xq_rl1, ↓xq_raise, ↓xq_exD0, ↓xq_exD1, ↓xq_exS, ↓xq_retS, ↓xq_thn, ↓xq_try, ↓xq_tk_nx, ↓xq_tk_rt, ↓xq_tk_br, ↓xq_tk_ct, ↓xq_tk_exc, ↓xq_ek_nx, ↓xq_ek_rt, ↓xq_xf, ↓xq_xfD, ↓xq_callQ, seqD_cell2, lstD_cell2, cellL_2, seqD_cell3, lstD_cell3, cellL_3, seqD_cell4, lstD_cell4, cellL_4, seqD_cell5, lstD_cell5, cellL_5, ↓xq_inS_nil, ↓xq_inS_cons, ↓xq_cloS, ↓xq_capM, ↓xq_act, ↓xq_lam1, ↓xq_lam2, ↓xq_lam3, ↓xq_lam4, ↓xq_lf, ↓xq_lamF, ↓xq_callZ, ↓xq_lendF, ↓xq_caps_nil, ↓xq_caps, ↓xq_envL_nil, ↓xq_envL, ↓xq_slotL, ↓xq_par2o, ↓xq_inPL, ↓xq_notInPL, ↓xq_clearC, ↓xq_inT, ↓xq_newT, ↓xq_putT, ↓xq_ins, ↓xq_mulT, ↓xq_rev, ↓xq_zip3, kst_rep1, kst_rep2, kst_rep3, kst_rep4, kst_seqL, kst_seqT, zpL_3nil, zpL_3cons, ↓xq_ownOp, ↓xq_ownIn, ↓xq_comp2, EG.runs, EG.run, uOf, ev, evs, evo, evr, evf, mkE, mkL, failL, bopF, copF, bltF, lbltF, env0, wipeE, isiAny, isi1, frzS, Cell.toD, atI_nn, setAt_nn, wp_inSg, Gam.put, clsTab, arrQ, arrP, Pick.of, kwM, rightB, E00, List.map_cons, List.map_nil, List.length_cons, List.length_nil, List.append_nil, List.nil_append, List.cons_append, List.getElem?_cons_zero, List.getElem?_cons_succ, List.getElem?_nil, List.set_cons_zero, List.set_cons_succ, List.filter_cons, List.filter_nil, List.contains_nil, List.elem_nil, Int.reduceNeg, Int.reducePow, nA10, nA2, le_big, Nat.reducePow, Nat.zero_add, Option.map_some, Option.bind_some, Int.reduceLE, Int.reduceToNat, Int.reduceLT, Nat.reduceLT, Nat.reduceAdd, Nat.reduceSub, true_and, and_true, decide_true, decide_false, List.length_append, List.length_map, Nat.reduceLeDiff, Nat.reduceEqDiff, Bool.not_true, Bool.not_false, decide_eq_true_eq, reduceCtorEq, Option.some.injEq, id_eq, List.all_cons, List.all_nil, List.any_cons, List.any_nil, Bool.and_true, Bool.true_and, Bool.and_false, Bool.false_and, Bool.or_true, Bool.or_false, Bool.true_or, Bool.false_or, Int.reduceAdd, Int.reduceSub, beq_self_eq_true, Option.isNone_none, Option.isNone_some, if_true, if_false, ite_true, ite_false, Nat.succ_eq_add_one, Int.natCast_add, Int.natCast_one, Int.cast_ofNat_Int, List.contains_cons, String.reduceEq, List.take_succ_cons, List.take_zero, List.drop_succ_cons, List.drop_zero, List.take_nil, List.drop_nil, List.replicate, Int.natCast_zero, Int.zero_add, hm]
    exact hq _ ⟨ms, _, _, _, _, rfl, by decide, by decide, h1, h2, by decide⟩
/-! _law_same of a thing with itself -/
def sameB : Nat → D → Bool
  | 0, _ => false
  | n + 1, .lst xs => xs.all (sameB n)
  | n + 1, .tup xs => xs.all (sameB n)
  | _ + 1, .non => true
  | _ + 1, .bl _ => true
  | _ + 1, .int _ => true
  | _ + 1, .str _ => true
  | _, _ => false
theorem mem_zipL : ∀ {xs : List D} {d : D}, d ∈ zipL xs xs → ∃ a ∈ xs, d = .tup [a, a]
  | [], d, h => nomatch h
  | x :: r, d, h => by
    rcases List.mem_cons.mp h with rfl | h
    · exact ⟨x, List.mem_cons_self .., rfl⟩
    · obtain ⟨a, h1, h2⟩ := mem_zipL (xs := r) h
      exact ⟨a, List.mem_cons_of_mem _ h1, h2⟩
theorem bools_true : ∀ (xs : List D), ∃ bs, boolsD (xs.map fun _ => D.bl true) = some bs ∧ bs.all id = true
  | [] => ⟨[], rfl, rfl⟩
  | x :: r => by
    obtain ⟨bs, h1, h2⟩ := bools_true r
    exact ⟨true :: bs, by rw [List.map_cons, bools_cons, h1]; rfl, by rw [List.all_cons, h2]; rfl⟩
theorem same_spec {F : Nat → Fn} {G : Nat → Gam} {lv : Nat → Nat} (hF : ∀ n, F (n + 1) = runF 4 (runs (G n) B_same)) (hG : ∀ n, (G n).fns[0]? = some ⟨"_law_same", 2, F n, lv n, []⟩) :
    ∀ (n : Nat) (d : D) (Q : D → Mu → Prop) (E : PX) (μ : Mu), sameB n d = true → Q (.bl true) μ → Wf (F n) [d, d] μ Q E
  | 0, d, Q, E, μ, h, _ => nomatch h
  | n + 1, d, Q, E, μ, h, hq => by
    rw [hF]
    unfold B_same
    cases d with
    | lst xs =>
      have h : xs.all (sameB n) = true := h
      simp only [↓br_true, ↓br_false, ↓op_some, ↓wp_bind, ↓wp_pure, ↓wp_fail, ↓wp_opt, ↓wp_guard, ↓wp_v, ↓wp_vB, ↓wp_c, ↓wp_op2, ↓wp_op2L, ↓wp_t, ↓wp_tru, ↓wp_chain, ↓wp_andT, ↓wp_orT, ↓wp_notT, ↓wp_andV, ↓wp_orV, ↓wp_notV, ↓wp_if, ↓wp_nil, ↓wp_cons, ↓wp_tup, ↓wp_lst, ↓wp_D, ↓wp_cb, ↓wp_call, ↓wp_isi, ↓wp_neg, ↓wp_sl, ↓wp_noP, ↓wp_P, ↓wp_yes, ↓wp_items, ↓wp_signs, ↓wp_comp, ↓ws_seq, ↓thn_nx, ↓thn_rt, ↓thn_br, ↓thn_ct, ↓thn_exc, ↓ws_skip, ↓ws_break, ↓ws_cont, ↓ws_retN, ↓ws_set, ↓ws_own, ↓ws_ret, ↓ws_drop, ↓ws_if, ↓ws_asg, ↓ws_par3, ↓ws_par3o, ↓ws_par, ↓ws_setC, ↓wp_newc, ↓ws_app, ↓ws_ext, ↓ws_setI, ↓ws_frz, ↓ws_for, ↓wl_nil, ↓wl_cons, ↓wf_run, ↓retS_nx, ↓retS_rt, ↓lpS_nx, ↓lpS_ct, ↓lpS_br, ↓lpS_rt, ↓turn_nx, ↓turn_ct, ↓turn_br, ↓turn_rt, ↓wp_addI, ↓wp_addS, ↓wp_subI, ↓wp_mulI, ↓wp_divI, ↓wp_modI, ↓wp_powI, ↓wp_cmpI, ↓wp_eq, ↓wp_ne, ↓wp_negI, ↓wp_seqE, ↓wp_lstE, ↓wp_ixL, ↓wp_ixT, ↓wp_ixC, ↓wp_ixS, ↓wp_lenS, ↓wp_lenL, ↓wp_lenT, ↓wp_lenC, ↓wp_absI, ↓wp_intI, ↓wp_intB, ↓wp_intS, ↓wp_strI, ↓wp_boolI, ↓wp_boolB, ↓wp_all, ↓wp_any, ↓wp_sum, ↓wp_max2, ↓wp_min2, ↓wp_list, ↓wp_tuple, ↓wp_sorted, ↓wp_slS, ↓wp_slT, ↓wp_slLD, ↓wp_slC, ↓wp_slL, ↓wp_range1, ↓wp_range2, ↓wp_enum, ↓wp_enumT, ↓wp_zip, ↓wp_zipTT, ↓wp_zipTL, ↓wp_zipLT, ↓wp_cat, ↓wp_rep, ↓wp_inSg, ↓wp_notInSg, ↓wp_inL, ↓wp_inT, ↓wp_notIn, ↓wp_isN, ↓wp_notN, ↓wp_isB, ↓wp_notB, tt1, tt2, tt3, tt4, tt5, tt6, tu1, tu2, tu3, tu4, tu5, tu6, tu7, tu8, tu9, tu10, tu11, tu12, tu13, tu14, tu15, tu16, tu17, tu18, tu19, tu20, tu21, tu22, tu23, tu24, asB_bl, truD_non, truD_bl, truD_int, truD_str, truD_lst, truD_tup, asI_int, asS_str, items_lst, items_tup, items_str, valS_v, valB_v, valB_own, seqD_lst, seqD_tup, seqD_cell0, lstD_lst, lstD_cell0, cellL_0, own_lst, nonB_non, nonB_bl, nonB_int, nonB_str, nonB_lst, nonB_tup, nonB_cell, nonB_obj, bools_nil, bools_cons, ints_nil, ints_cons, eqD_ii, eqD_bb, eqD_ss, eqD_nn, eqD_ni, eqD_in, eqD_nb, eqD_bn, eqD_ns, eqD_sn, eqD_is, eqD_si, eqD_bs, eqD_sb, tag_non, tag_bl, tag_int, tag_str, tag_lst, tag_tup, tag_obj, bindP_nm, bindP_tp, bindP_tl, bindPs_nil, bindPs_cons, ↓wp_get, ↓wp_meth, ↓wp_prop, ↓ws_setF, ↓wp_mk, ↓wp_own, ↓wp_kd, ↓wp_methK, ↓wp_ownNe, ↓wp_own1, ↓wp_ownT, ↓wp_fstr, ↓wp_fFn, ↓wp_fFc, ↓wp_fmtS, ↓wp_fmtI, kok_len, kok_repr, kok_bool, eqD_tt, eqD_ll, plB_non, plB_bl, plB_int, plB_str, plB_lst, plB_tup, eqBs_nn, eqBs_cc, eqBs_nc, eqBs_cn, eqB_ii, eqB_bb, eqB_ss, eqB_nn, eqB_ll, eqB_tt, eqB_ni, eqB_in, eqB_nt, eqB_tn, eqB_it, eqB_ti, ↓wp_addT, ↓wp_addL, ↓wp_mulL, objD_obj, objD_last, cellO_last, set_last, isO_obj, isO_last, putD_nil, putD_cons, lkp_nil, lkp_cons, bel_plain, bels_plain, belF_nil, belF_cons, ↓wp_compN, ↓wp_compC, rng_0, rng_1, rng_2, rng_3, enL_nil, enL_cons, zpL_nil, zpL_nilR, zpL_cons, ↓wp_maxL, ↓wp_minL, maxL_2, maxL_1, minL_2, minL_1, bel_non, bel_bl, bel_int, bel_str, bel_lst, bel_tup, bel_obj, bels_nil, bels_cons, kst_app0, ctl_hi, ctl_lo, ctl_no, kst_inj, ↓wp_rgI1, ↓wp_rgI2, ↓wp_rg1, ↓wp_rg2, ↓wp_callO, kst_beq, ↓ws_appC, ↓wp_compZ, ↓wp_zipM, ↓wp_compLN, ↓wp_compLC, seqD_mL, seqD_mT, seqD_mC, kst_kL, kst_kT, keep_cell, tag_cellL, ↓wp_u, ↓wp_lone, ↓wp_star, dataL_lst, dataL_tup, ↓wp_cu, ↓wp_mu, ↓wp_mku, ↓wp_lmu, isCls_eq, ↓wu_F, ↓wu_S, ↓ws_forM, ↓wfm_lst, ↓wfm_tup, ↓xq_rl0, ↓xq_rl1, ↓xq_raise, ↓xq_exD0, ↓xq_exD1, ↓xq_exS, ↓xq_retS, ↓xq_thn, ↓xq_try, ↓xq_tk_nx, ↓xq_tk_rt, ↓xq_tk_br, ↓xq_tk_ct, ↓xq_tk_exc, ↓xq_ek_nx, ↓xq_ek_rt, ↓xq_xf, ↓xq_xfD, ↓xq_callQ, seqD_cell2, lstD_cell2, cellL_2, seqD_cell3, lstD_cell3, cellL_3, seqD_cell4, lstD_cell4, cellL_4, seqD_cell5, lstD_cell5, cellL_5, ↓xq_inS_nil, ↓xq_inS_cons, ↓xq_cloS, ↓xq_capM, ↓xq_act, ↓xq_lam1, ↓xq_lam2, ↓xq_lam3, ↓xq_lam4, ↓xq_lf, ↓xq_lamF, ↓xq_callZ, ↓xq_lendF, ↓xq_caps_nil, ↓xq_caps, ↓xq_envL_nil, ↓xq_envL, ↓xq_slotL, ↓xq_par2o, ↓xq_inPL, ↓xq_notInPL, ↓xq_clearC, ↓xq_inT, ↓xq_newT, ↓xq_putT, ↓xq_ins, ↓xq_mulT, ↓xq_rev, ↓xq_zip3, kst_rep1, kst_rep2, kst_rep3, kst_rep4, kst_seqL, kst_seqT, zpL_3nil, zpL_3cons, ↓xq_ownOp, ↓xq_ownIn, ↓xq_comp2, EG.runs, EG.run, uOf, ev, evs, evo, evr, evf, mkE, mkL, failL, bopF, copF, bltF, lbltF, env0, wipeE, isiAny, isi1, frzS, Cell.toD, atI_nn, setAt_nn, wp_inSg, Gam.put, clsTab, arrQ, arrP, Pick.of, kwM, rightB, E00, List.map_cons, List.map_nil, List.length_cons, List.length_nil, List.append_nil, List.nil_append, List.cons_append, List.getElem?_cons_zero, List.getElem?_cons_succ, List.getElem?_nil, List.set_cons_zero, List.set_cons_succ, List.filter_cons, List.filter_nil, List.contains_nil, List.elem_nil, Int.reduceNeg, Int.reducePow, nA10, nA2, le_big, Nat.reducePow, Nat.zero_add, Option.map_some, Option.bind_some, Int.reduceLE, Int.reduceToNat, Int.reduceLT, Nat.reduceLT, Nat.reduceAdd, Nat.reduceSub, true_and, and_true, decide_true, decide_false, List.length_append, List.length_map, Nat.reduceLeDiff, Nat.reduceEqDiff, Bool.not_true, Bool.not_false, decide_eq_true_eq, reduceCtorEq, Option.some.injEq, id_eq, List.all_cons, List.all_nil, List.any_cons, List.any_nil, Bool.and_true, Bool.true_and, Bool.and_false, Bool.false_and, Bool.or_true, Bool.or_false, Bool.true_or, Bool.false_or, Int.reduceAdd, Int.reduceSub, beq_self_eq_true, Option.isNone_none, Option.isNone_some, if_true, if_false, ite_true, ite_false, Nat.succ_eq_add_one, Int.natCast_add, Int.natCast_one, Int.cast_ofNat_Int, List.contains_cons, String.reduceEq, List.take_succ_cons, List.take_zero, List.drop_succ_cons, List.drop_zero, List.take_nil, List.drop_nil, List.replicate, Int.natCast_zero, Int.zero_add, hG]
      obtain ⟨bs, b1, b2⟩ := bools_true ((zipL xs xs).filter fun _ => true)
      refine wp_of_eq (compL_pure (fun _ => true) (fun _ => .bl true) (zipL xs xs) fun d hd => ?_) ?_
      · obtain ⟨a, ha, rfl⟩ := mem_zipL hd
        refine ⟨[.v (.lst xs), .v (.lst xs), .v a, .v a], by array_get_dec, ?_, fun _ => ?_⟩
        · array_get_dec
        · simp only [↓br_true, ↓br_false, ↓op_some, ↓wp_bind, ↓wp_pure, ↓wp_fail, ↓wp_opt, ↓wp_guard, ↓wp_v, ↓wp_vB, ↓wp_c, ↓wp_op2, ↓wp_op2L, ↓wp_t, ↓wp_tru, ↓wp_chain, ↓wp_andT, ↓wp_orT, ↓wp_notT, ↓wp_andV, ↓wp_orV, ↓wp_notV, ↓wp_if, ↓wp_nil, ↓wp_cons, ↓wp_tup, ↓wp_lst, ↓wp_D, ↓wp_cb, ↓wp_call, ↓wp_isi, ↓wp_neg, ↓wp_sl, ↓wp_noP, ↓wp_P, ↓wp_yes, ↓wp_items, ↓wp_signs, ↓wp_comp, ↓ws_seq, ↓thn_nx, ↓thn_rt, ↓thn_br, ↓thn_ct, ↓thn_exc, ↓ws_skip, ↓ws_break, ↓ws_cont, ↓ws_retN, ↓ws_set, ↓ws_own, ↓ws_ret, ↓ws_drop, ↓ws_if, ↓ws_asg, ↓ws_par3, ↓ws_par3o, ↓ws_par, ↓ws_setC, ↓wp_newc, ↓ws_app, ↓ws_ext, ↓ws_setI, ↓ws_frz, ↓ws_for, ↓wl_nil, ↓wl_cons, ↓wf_run, ↓retS_nx, ↓retS_rt, ↓lpS_nx, ↓lpS_ct, ↓lpS_br, ↓lpS_rt, ↓turn_nx, ↓turn_ct, ↓turn_br, ↓turn_rt, ↓wp_addI, ↓wp_addS, ↓wp_subI, ↓wp_mulI, ↓wp_divI, ↓wp_modI, ↓wp_powI, ↓wp_cmpI, ↓wp_eq, ↓wp_ne, ↓wp_negI, ↓wp_seqE, ↓wp_lstE, ↓wp_ixL, ↓wp_ixT, ↓wp_ixC, ↓wp_ixS, ↓wp_lenS, ↓wp_lenL, ↓wp_lenT, ↓wp_lenC, ↓wp_absI, ↓wp_intI, ↓wp_intB, ↓wp_intS, ↓wp_strI, ↓wp_boolI, ↓wp_boolB, ↓wp_all, ↓wp_any, ↓wp_sum, ↓wp_max2, ↓wp_min2, ↓wp_list, ↓wp_tuple, ↓wp_sorted, ↓wp_slS, ↓wp_slT, ↓wp_slLD, ↓wp_slC, ↓wp_slL, ↓wp_range1, ↓wp_range2, ↓wp_enum, ↓wp_enumT, ↓wp_zip, ↓wp_zipTT, ↓wp_zipTL, ↓wp_zipLT, ↓wp_cat, ↓wp_rep, ↓wp_inSg, ↓wp_notInSg, ↓wp_inL, ↓wp_inT, ↓wp_notIn, ↓wp_isN, ↓wp_notN, ↓wp_isB, ↓wp_notB, tt1, tt2, tt3, tt4, tt5, tt6, tu1, tu2, tu3, tu4, tu5, tu6, tu7, tu8, tu9, tu10, tu11, tu12, tu13, tu14, tu15, tu16, tu17, tu18, tu19, tu20, tu21, tu22, tu23, tu24, asB_bl, truD_non, truD_bl, truD_int, truD_str, truD_lst, truD_tup, asI_int, asS_str, items_lst, items_tup, items_str, valS_v, valB_v, valB_own, seqD_lst, seqD_tup, seqD_cell0, lstD_lst, lstD_cell0, cellL_0, own_lst, nonB_non, nonB_bl, nonB_int, nonB_str, nonB_lst, nonB_tup, nonB_cell, nonB_obj, bools_nil, bools_cons, ints_nil, ints_cons, eqD_ii, eqD_bb, eqD_ss, eqD_nn, eqD_ni, eqD_in, eqD_nb, eqD_bn, eqD_ns, eqD_sn, eqD_is, eqD_si, eqD_bs, eqD_sb, tag_non, tag_bl, tag_int, tag_str, tag_lst, tag_tup, tag_obj, bindP_nm, bindP_tp, bindP_tl, bindPs_nil, bindPs_cons, ↓wp_get, ↓wp_meth, ↓wp_prop, ↓ws_setF, ↓wp_mk, ↓wp_own, ↓wp_kd, ↓wp_methK, ↓wp_ownNe, ↓wp_own1, ↓wp_ownT, ↓wp_fstr, ↓wp_fFn, ↓wp_fFc, ↓wp_fmtS, ↓wp_fmtI, kok_len, kok_repr, kok_bool, eqD_tt, eqD_ll, plB_non, plB_bl, plB_int, plB_str, plB_lst, plB_tup, eqBs_nn, eqBs_cc, eqBs_nc, eqBs_cn, eqB_ii, eqB_bb, eqB_ss, eqB_nn, eqB_ll, eqB_tt, eqB_ni, eqB_in, eqB_nt, eqB_tn, eqB_it, eqB_ti, ↓wp_addT, ↓wp_addL, ↓wp_mulL, objD_obj, objD_last, cellO_last, set_last, isO_obj, isO_last, putD_nil, putD_cons, lkp_nil, lkp_cons, bel_plain, bels_plain, belF_nil, belF_cons, ↓wp_compN, ↓wp_compC, rng_0, rng_1, rng_2, rng_3, enL_nil, enL_cons, zpL_nil, zpL_nilR, zpL_cons, ↓wp_maxL, ↓wp_minL, maxL_2, maxL_1, minL_2, minL_1, bel_non, bel_bl, bel_int, bel_str, bel_lst, bel_tup, bel_obj, bels_nil, bels_cons, kst_app0, ctl_hi, ctl_lo, ctl_no, kst_inj, ↓wp_rgI1, ↓wp_rgI2, ↓wp_rg1, ↓wp_rg2, ↓wp_callO, kst_beq, ↓ws_appC, ↓wp_compZ, ↓wp_zipM, ↓wp_compLN, ↓wp_compLC, seqD_mL, seqD_mT, seqD_mC, kst_kL, kst_kT, keep_cell, tag_cellL, ↓wp_u, ↓wp_lone, ↓wp_star, dataL_lst, dataL_tup, ↓wp_cu, ↓wp_mu, ↓wp_mku, ↓wp_lmu, isCls_eq, ↓wu_F, ↓wu_S, ↓ws_forM, ↓wfm_lst, ↓wfm_tup, ↓xq_rl0, ↓xq_rl1, ↓xq_raise, ↓xq_exD0, ↓xq_exD1, ↓xq_exS, ↓xq_retS, ↓xq_thn, ↓xq_try, ↓xq_tk_nx, ↓xq_tk_rt, ↓xq_tk_br, ↓xq_tk_ct, ↓xq_tk_exc, ↓xq_ek_nx, ↓xq_ek_rt, ↓xq_xf, ↓xq_xfD, ↓xq_callQ, seqD_cell2, lstD_cell2, cellL_2, seqD_cell3, lstD_cell3, cellL_3, seqD_cell4, lstD_cell4, cellL_4, seqD_cell5, lstD_cell5, cellL_5, ↓xq_inS_nil, ↓xq_inS_cons, ↓xq_cloS, ↓xq_capM, ↓xq_act, ↓xq_lam1, ↓xq_lam2, ↓xq_lam3, ↓xq_lam4, ↓xq_lf, ↓xq_lamF, ↓xq_callZ, ↓xq_lendF, ↓xq_caps_nil, ↓xq_caps, ↓xq_envL_nil, ↓xq_envL, ↓xq_slotL, ↓xq_par2o, ↓xq_inPL, ↓xq_notInPL, ↓xq_clearC, ↓xq_inT, ↓xq_newT, ↓xq_putT, ↓xq_ins, ↓xq_mulT, ↓xq_rev, ↓xq_zip3, kst_rep1, kst_rep2, kst_rep3, kst_rep4, kst_seqL, kst_seqT, zpL_3nil, zpL_3cons, ↓xq_ownOp, ↓xq_ownIn, ↓xq_comp2, EG.runs, EG.run, uOf, ev, evs, evo, evr, evf, mkE, mkL, failL, bopF, copF, bltF, lbltF, env0, wipeE, isiAny, isi1, frzS, Cell.toD, atI_nn, setAt_nn, wp_inSg, Gam.put, clsTab, arrQ, arrP, Pick.of, kwM, rightB, E00, List.map_cons, List.map_nil, List.length_cons, List.length_nil, List.append_nil, List.nil_append, List.cons_append, List.getElem?_cons_zero, List.getElem?_cons_succ, List.getElem?_nil, List.set_cons_zero, List.set_cons_succ, List.filter_cons, List.filter_nil, List.contains_nil, List.elem_nil, Int.reduceNeg, Int.reducePow, nA10, nA2, le_big, Nat.reducePow, Nat.zero_add, Option.map_some, Option.bind_some, Int.reduceLE, Int.reduceToNat, Int.reduceLT, Nat.reduceLT, Nat.reduceAdd, Nat.reduceSub, true_and, and_true, decide_true, decide_false, List.length_append, List.length_map, Nat.reduceLeDiff, Nat.reduceEqDiff, Bool.not_true, Bool.not_false, decide_eq_true_eq, reduceCtorEq, Option.some.injEq, id_eq, List.all_cons, List.all_nil, List.any_cons, List.any_nil, Bool.and_true, Bool.true_and, Bool.and_false, Bool.false_and, Bool.or_true, Bool.or_false, Bool.true_or, Bool.false_or, Int.reduceAdd, Int.reduceSub, beq_self_eq_true, Option.isNone_none, Option.isNone_some, if_true, if_false, ite_true, ite_false, Nat.succ_eq_add_one, Int.natCast_add, Int.natCast_one, Int.cast_ofNat_Int, List.contains_cons, String.reduceEq, List.take_succ_cons, List.take_zero, List.drop_succ_cons, List.drop_zero, List.take_nil, List.drop_nil, List.replicate, Int.natCast_zero, Int.zero_add, hG]
          exact same_spec hF hG n a _ _ μ (List.all_eq_true.mp h a ha) ⟨rfl, rfl⟩
      · simp only [↓br_true, ↓br_false, ↓op_some, ↓wp_bind, ↓wp_pure, ↓wp_fail, ↓wp_opt, ↓wp_guard, ↓wp_v, ↓wp_vB, ↓wp_c, ↓wp_op2, ↓wp_op2L, ↓wp_t, ↓wp_tru, ↓wp_chain, ↓wp_andT, ↓wp_orT, ↓wp_notT, ↓wp_andV, ↓wp_orV, ↓wp_notV, ↓wp_if, ↓wp_nil, ↓wp_cons, ↓wp_tup, ↓wp_lst, ↓wp_D, ↓wp_cb, ↓wp_call, ↓wp_isi, ↓wp_neg, ↓wp_sl, ↓wp_noP, ↓wp_P, ↓wp_yes, ↓wp_items, ↓wp_signs, ↓wp_comp, ↓ws_seq, ↓thn_nx, ↓thn_rt, ↓thn_br, ↓thn_ct, ↓thn_exc, ↓ws_skip, ↓ws_break, ↓ws_cont, ↓ws_retN, ↓ws_set, ↓ws_own, ↓ws_ret, ↓ws_drop, ↓ws_if, ↓ws_asg, ↓ws_par3, ↓ws_par3o, ↓ws_par, ↓ws_setC, ↓wp_newc, ↓ws_app, ↓ws_ext, ↓ws_setI, ↓ws_frz, ↓ws_for, ↓wl_nil, ↓wl_cons, ↓wf_run, ↓retS_nx, ↓retS_rt, ↓lpS_nx, ↓lpS_ct, ↓lpS_br, ↓lpS_rt, ↓turn_nx, ↓turn_ct, ↓turn_br, ↓turn_rt, ↓wp_addI, ↓wp_addS, ↓wp_subI, ↓wp_mulI, ↓wp_divI, ↓wp_modI, ↓wp_powI, ↓wp_cmpI, ↓wp_eq, ↓wp_ne, ↓wp_negI, ↓wp_seqE, ↓wp_lstE, ↓wp_ixL, ↓wp_ixT, ↓wp_ixC, ↓wp_ixS, ↓wp_lenS, ↓wp_lenL, ↓wp_lenT, ↓wp_lenC, ↓wp_absI, ↓wp_intI, ↓wp_intB, ↓wp_intS, ↓wp_strI, ↓wp_boolI, ↓wp_boolB, ↓wp_all, ↓wp_any, ↓wp_sum, ↓wp_max2, ↓wp_min2, ↓wp_list, ↓wp_tuple, ↓wp_sorted, ↓wp_slS, ↓wp_slT, ↓wp_slLD, ↓wp_slC, ↓wp_slL, ↓wp_range1, ↓wp_range2, ↓wp_enum, ↓wp_enumT, ↓wp_zip, ↓wp_zipTT, ↓wp_zipTL, ↓wp_zipLT, ↓wp_cat, ↓wp_rep, ↓wp_inSg, ↓wp_notInSg, ↓wp_inL, ↓wp_inT, ↓wp_notIn, ↓wp_isN, ↓wp_notN, ↓wp_isB, ↓wp_notB, tt1, tt2, tt3, tt4, tt5, tt6, tu1, tu2, tu3, tu4, tu5, tu6, tu7, tu8, tu9, tu10, tu11, tu12, tu13, tu14, tu15, tu16, tu17, tu18, tu19, tu20, tu21, tu22, tu23, tu24, asB_bl, truD_non, truD_bl, truD_int, truD_str, truD_lst, truD_tup, asI_int, asS_str, items_lst, items_tup, items_str, valS_v, valB_v, valB_own, seqD_lst, seqD_tup, seqD_cell0, lstD_lst, lstD_cell0, cellL_0, own_lst, nonB_non, nonB_bl, nonB_int, nonB_str, nonB_lst, nonB_tup, nonB_cell, nonB_obj, bools_nil, bools_cons, ints_nil, ints_cons, eqD_ii, eqD_bb, eqD_ss, eqD_nn, eqD_ni, eqD_in, eqD_nb, eqD_bn, eqD_ns, eqD_sn, eqD_is, eqD_si, eqD_bs, eqD_sb, tag_non, tag_bl, tag_int, tag_str, tag_lst, tag_tup, tag_obj, bindP_nm, bindP_tp, bindP_tl, bindPs_nil, bindPs_cons, ↓wp_get, ↓wp_meth, ↓wp_prop, ↓ws_setF, ↓wp_mk, ↓wp_own, ↓wp_kd, ↓wp_methK, ↓wp_ownNe, ↓wp_own1, ↓wp_ownT, ↓wp_fstr, ↓wp_fFn, ↓wp_fFc, ↓wp_fmtS, ↓wp_fmtI, kok_len, kok_repr, kok_bool, eqD_tt, eqD_ll, plB_non, plB_bl, plB_int, plB_str, plB_lst, plB_tup, eqBs_nn, eqBs_cc, eqBs_nc, eqBs_cn, eqB_ii, eqB_bb, eqB_ss, eqB_nn, eqB_ll, eqB_tt, eqB_ni, eqB_in, eqB_nt, eqB_tn, eqB_it, eqB_ti, ↓wp_addT, ↓wp_addL, ↓wp_mulL, objD_obj, objD_last, cellO_last, set_last, isO_obj, isO_last, putD_nil, putD_cons, lkp_nil, lkp_cons, bel_plain, bels_plain, belF_nil, belF_cons, ↓wp_compN, ↓wp_compC, rng_0, rng_1, rng_2, rng_3, enL_nil, enL_cons, zpL_nil, zpL_nilR, zpL_cons, ↓wp_maxL, ↓wp_minL, maxL_2, maxL_1, minL_2, minL_1, bel_non, bel_bl, bel_int, bel_str, bel_lst, bel_tup, bel_obj, bels_nil, bels_cons, kst_app0, ctl_hi, ctl_lo, ctl_no, kst_inj, ↓wp_rgI1, ↓wp_rgI2, ↓wp_rg1, ↓wp_rg2, ↓wp_callO, kst_beq, ↓ws_appC, ↓wp_compZ, ↓wp_zipM, ↓wp_compLN, ↓wp_compLC, seqD_mL, seqD_mT, seqD_mC, kst_kL, kst_kT, keep_cell, tag_cellL, ↓wp_u, ↓wp_lone, ↓wp_star, dataL_lst, dataL_tup, ↓wp_cu, ↓wp_mu, ↓wp_mku, ↓wp_lmu, isCls_eq, ↓wu_F, ↓wu_S, ↓ws_forM, ↓wfm_lst, ↓wfm_tup, ↓xq_rl0, ↓xq_rl1, ↓xq_raise, ↓xq_exD0, ↓xq_exD1, ↓xq_exS, ↓xq_retS, ↓xq_thn, ↓xq_try, ↓xq_tk_nx, ↓xq_tk_rt, ↓xq_tk_br, ↓xq_tk_ct, ↓xq_tk_exc, ↓xq_ek_nx, ↓xq_ek_rt, ↓xq_xf, ↓xq_xfD, ↓xq_callQ, seqD_cell2, lstD_cell2, cellL_2, seqD_cell3, lstD_cell3, cellL_3, seqD_cell4, lstD_cell4, cellL_4, seqD_cell5, lstD_cell5, cellL_5, ↓xq_inS_nil, ↓xq_inS_cons, ↓xq_cloS, ↓xq_capM, ↓xq_act, ↓xq_lam1, ↓xq_lam2, ↓xq_lam3, ↓xq_lam4, ↓xq_lf, ↓xq_lamF, ↓xq_callZ, ↓xq_lendF, ↓xq_caps_nil, ↓xq_caps, ↓xq_envL_nil, ↓xq_envL, ↓xq_slotL, ↓xq_par2o, ↓xq_inPL, ↓xq_notInPL, ↓xq_clearC, ↓xq_inT, ↓xq_newT, ↓xq_putT, ↓xq_ins, ↓xq_mulT, ↓xq_rev, ↓xq_zip3, kst_rep1, kst_rep2, kst_rep3, kst_rep4, kst_seqL, kst_seqT, zpL_3nil, zpL_3cons, ↓xq_ownOp, ↓xq_ownIn, ↓xq_comp2, EG.runs, EG.run, uOf, ev, evs, evo, evr, evf, mkE, mkL, failL, bopF, copF, bltF, lbltF, env0, wipeE, isiAny, isi1, frzS, Cell.toD, atI_nn, setAt_nn, wp_inSg, Gam.put, clsTab, arrQ, arrP, Pick.of, kwM, rightB, E00, List.map_cons, List.map_nil, List.length_cons, List.length_nil, List.append_nil, List.nil_append, List.cons_append, List.getElem?_cons_zero, List.getElem?_cons_succ, List.getElem?_nil, List.set_cons_zero, List.set_cons_succ, List.filter_cons, List.filter_nil, List.contains_nil, List.elem_nil, Int.reduceNeg, Int.reducePow, nA10, nA2, le_big, Nat.reducePow, Nat.zero_add, Option.map_some, Option.bind_some, Int.reduceLE, Int.reduceToNat, Int.reduceLT, Nat.reduceLT, Nat.reduceAdd, Nat.reduceSub, true_and, and_true, decide_true, decide_false, List.length_append, List.length_map, Nat.reduceLeDiff, Nat.reduceEqDiff, Bool.not_true, Bool.not_false, decide_eq_true_eq, reduceCtorEq, Option.some.injEq, id_eq, List.all_cons, List.all_nil, List.any_cons, List.any_nil, Bool.and_true, Bool.true_and, Bool.and_false, Bool.false_and, Bool.or_true, Bool.or_false, Bool.true_or, Bool.false_or, Int.reduceAdd, Int.reduceSub, beq_self_eq_true, Option.isNone_none, Option.isNone_some, if_true, if_false, ite_true, ite_false, Nat.succ_eq_add_one, Int.natCast_add, Int.natCast_one, Int.cast_ofNat_Int, List.contains_cons, String.reduceEq, List.take_succ_cons, List.take_zero, List.drop_succ_cons, List.drop_zero, List.take_nil, List.drop_nil, List.replicate, Int.natCast_zero, Int.zero_add, b1, b2]
        exact hq
    | tup xs =>
      have h : xs.all (sameB n) = true := h
      simp only [↓br_true, ↓br_false, ↓op_some, ↓wp_bind, ↓wp_pure, ↓wp_fail, ↓wp_opt, ↓wp_guard, ↓wp_v, ↓wp_vB, ↓wp_c, ↓wp_op2, ↓wp_op2L, ↓wp_t, ↓wp_tru, ↓wp_chain, ↓wp_andT, ↓wp_orT, ↓wp_notT, ↓wp_andV, ↓wp_orV, ↓wp_notV, ↓wp_if, ↓wp_nil, ↓wp_cons, ↓wp_tup, ↓wp_lst, ↓wp_D, ↓wp_cb, ↓wp_call, ↓wp_isi, ↓wp_neg, ↓wp_sl, ↓wp_noP, ↓wp_P, ↓wp_yes, ↓wp_items, ↓wp_signs, ↓wp_comp, ↓ws_seq, ↓thn_nx, ↓thn_rt, ↓thn_br, ↓thn_ct, ↓thn_exc, ↓ws_skip, ↓ws_break, ↓ws_cont, ↓ws_retN, ↓ws_set, ↓ws_own, ↓ws_ret, ↓ws_drop, ↓ws_if, ↓ws_asg, ↓ws_par3, ↓ws_par3o, ↓ws_par, ↓ws_setC, ↓wp_newc, ↓ws_app, ↓ws_ext, ↓ws_setI, ↓ws_frz, ↓ws_for, ↓wl_nil, ↓wl_cons, ↓wf_run, ↓retS_nx, ↓retS_rt, ↓lpS_nx, ↓lpS_ct, ↓lpS_br, ↓lpS_rt, ↓turn_nx, ↓turn_ct, ↓turn_br, ↓turn_rt, ↓wp_addI, ↓wp_addS, ↓wp_subI, ↓wp_mulI, ↓wp_divI, ↓wp_modI, ↓wp_powI, ↓wp_cmpI, ↓wp_eq, ↓wp_ne, ↓wp_negI, ↓wp_seqE, ↓wp_lstE, ↓wp_ixL, ↓wp_ixT, ↓wp_ixC, ↓wp_ixS, ↓wp_lenS, ↓wp_lenL, ↓wp_lenT, ↓wp_lenC, ↓wp_absI, ↓wp_intI, ↓wp_intB, ↓wp_intS, ↓wp_strI, ↓wp_boolI, ↓wp_boolB, ↓wp_all, ↓wp_any, ↓wp_sum, ↓wp_max2, ↓wp_min2, ↓wp_list, ↓wp_tuple, ↓wp_sorted, ↓wp_slS, ↓wp_slT, ↓wp_slLD, ↓wp_slC, ↓wp_slL, ↓wp_range1, ↓wp_range2, ↓wp_enum, ↓wp_enumT, ↓wp_zip, ↓wp_zipTT, ↓wp_zipTL, ↓wp_zipLT, ↓wp_cat, ↓wp_rep, ↓wp_inSg, ↓wp_notInSg, ↓wp_inL, ↓wp_inT, ↓wp_notIn, ↓wp_isN, ↓wp_notN, ↓wp_isB, ↓wp_notB, tt1, tt2, tt3, tt4, tt5, tt6, tu1, tu2, tu3, tu4, tu5, tu6, tu7, tu8, tu9, tu10, tu11, tu12, tu13, tu14, tu15, tu16, tu17, tu18, tu19, tu20, tu21, tu22, tu23, tu24, asB_bl, truD_non, truD_bl, truD_int, truD_str, truD_lst, truD_tup, asI_int, asS_str, items_lst, items_tup, items_str, valS_v, valB_v, valB_own, seqD_lst, seqD_tup, seqD_cell0, lstD_lst, lstD_cell0, cellL_0, own_lst, nonB_non, nonB_bl, nonB_int, nonB_str, nonB_lst, nonB_tup, nonB_cell, nonB_obj, bools_nil, bools_cons, ints_nil, ints_cons, eqD_ii, eqD_bb, eqD_ss, eqD_nn, eqD_ni, eqD_in, eqD_nb, eqD_bn, eqD_ns, eqD_sn, eqD_is, eqD_si, eqD_bs, eqD_sb, tag_non, tag_bl, tag_int, tag_str, tag_lst, tag_tup, tag_obj, bindP_nm, bindP_tp, bindP_tl, bindPs_nil, bindPs_cons, ↓wp_get, ↓wp_meth, ↓wp_prop, ↓ws_setF, ↓wp_mk, ↓wp_own, ↓wp_kd, ↓wp_methK, ↓wp_ownNe, ↓wp_own1, ↓wp_ownT, ↓wp_fstr, ↓wp_fFn, ↓wp_fFc, ↓wp_fmtS, ↓wp_fmtI, kok_len, kok_repr, kok_bool, eqD_tt, eqD_ll, plB_non, plB_bl, plB_int, plB_str, plB_lst, plB_tup, eqBs_nn, eqBs_cc, eqBs_nc, eqBs_cn, eqB_ii, eqB_bb, eqB_ss, eqB_nn, eqB_ll, eqB_tt, eqB_ni, eqB_in, eqB_nt, eqB_tn, eqB_it, eqB_ti, ↓wp_addT, ↓wp_addL, ↓wp_mulL, objD_obj, objD_last, cellO_last, set_last, isO_obj, isO_last, putD_nil, putD_cons, lkp_nil, lkp_cons, bel_plain, bels_plain, belF_nil, belF_cons, ↓wp_compN, ↓wp_compC, rng_0, rng_1, rng_2, rng_3, enL_nil, enL_cons, zpL_nil, zpL_nilR, zpL_cons, ↓wp_maxL, ↓wp_minL, maxL_2, maxL_1, minL_2, minL_1, bel_non, bel_bl, bel_int, bel_str, bel_lst, bel_tup, bel_obj, bels_nil, bels_cons, kst_app0, ctl_hi, ctl_lo, ctl_no, kst_inj, ↓wp_rgI1, ↓wp_rgI2, ↓wp_rg1, ↓wp_rg2, ↓wp_callO, kst_beq, ↓ws_appC, ↓wp_compZ, ↓wp_zipM, ↓wp_compLN, ↓wp_compLC, seqD_mL, seqD_mT, seqD_mC, kst_kL, kst_kT, keep_cell, tag_cellL, ↓wp_u, ↓wp_lone, ↓wp_star, dataL_lst, dataL_tup, ↓wp_cu, ↓wp_mu, ↓wp_mku, ↓wp_lmu, isCls_eq, ↓wu_F, ↓wu_S, ↓ws_forM, ↓wfm_lst, ↓wfm_tup, ↓xq_rl0, ↓xq_rl1, ↓xq_raise, ↓xq_exD0, ↓xq_exD1, ↓xq_exS, ↓xq_retS, ↓xq_thn, ↓xq_try, ↓xq_tk_nx, ↓xq_tk_rt, ↓xq_tk_br, ↓xq_tk_ct, ↓xq_tk_exc, ↓xq_ek_nx, ↓xq_ek_rt, ↓xq_xf, ↓xq_xfD, ↓xq_callQ, seqD_cell2, lstD_cell2, cellL_2, seqD_cell3, lstD_cell3, cellL_3, seqD_cell4, lstD_cell4, cellL_4, seqD_cell5, lstD_cell5, cellL_5, ↓xq_inS_nil, ↓xq_inS_cons, ↓xq_cloS, ↓xq_capM, ↓xq_act, ↓xq_lam1, ↓xq_lam2, ↓xq_lam3, ↓xq_lam4, ↓xq_lf, ↓xq_lamF, ↓xq_callZ, ↓xq_lendF, ↓xq_caps_nil, ↓xq_caps, ↓xq_envL_nil, ↓xq_envL, ↓xq_slotL, ↓xq_par2o, ↓xq_inPL, ↓xq_notInPL, ↓xq_clearC, ↓xq_inT, ↓xq_newT, ↓xq_putT, ↓xq_ins, ↓xq_mulT, ↓xq_rev, ↓xq_zip3, kst_rep1, kst_rep2, kst_rep3, kst_rep4, kst_seqL, kst_seqT, zpL_3nil, zpL_3cons, ↓xq_ownOp, ↓xq_ownIn, ↓xq_comp2, EG.runs, EG.run, uOf, ev, evs, evo, evr, evf, mkE, mkL, failL, bopF, copF, bltF, lbltF, env0, wipeE, isiAny, isi1, frzS, Cell.toD, atI_nn, setAt_nn, wp_inSg, Gam.put, clsTab, arrQ, arrP, Pick.of, kwM, rightB, E00, List.map_cons, List.map_nil, List.length_cons, List.length_nil, List.append_nil, List.nil_append, List.cons_append, List.getElem?_cons_zero, List.getElem?_cons_succ, List.getElem?_nil, List.set_cons_zero, List.set_cons_succ, List.filter_cons, List.filter_nil, List.contains_nil, List.elem_nil, Int.reduceNeg, Int.reducePow, nA10, nA2, le_big, Nat.reducePow, Nat.zero_add, Option.map_some, Option.bind_some, Int.reduceLE, Int.reduceToNat, Int.reduceLT, Nat.reduceLT, Nat.reduceAdd, Nat.reduceSub, true_and, and_true, decide_true, decide_false, List.length_append, List.length_map, Nat.reduceLeDiff, Nat.reduceEqDiff, Bool.not_true, Bool.not_false, decide_eq_true_eq, reduceCtorEq, Option.some.injEq, id_eq, List.all_cons, List.all_nil, List.any_cons, List.any_nil, Bool.and_true, Bool.true_and, Bool.and_false, Bool.false_and, Bool.or_true, Bool.or_false, Bool.true_or, Bool.false_or, Int.reduceAdd, Int.reduceSub, beq_self_eq_true, Option.isNone_none, Option.isNone_some, if_true, if_false, ite_true, ite_false, Nat.succ_eq_add_one, Int.natCast_add, Int.natCast_one, Int.cast_ofNat_Int, List.contains_cons, String.reduceEq, List.take_succ_cons, List.take_zero, List.drop_succ_cons, List.drop_zero, List.take_nil, List.drop_nil, List.replicate, Int.natCast_zero, Int.zero_add, hG]
      obtain ⟨bs, b1, b2⟩ := bools_true ((zipL xs xs).filter fun _ => true)
      refine wp_of_eq (compL_pure (fun _ => true) (fun _ => .bl true) (zipL xs xs) fun d hd => ?_) ?_
      · obtain ⟨a, ha, rfl⟩ := mem_zipL hd
        refine ⟨[.v (.tup xs), .v (.tup xs), .v a, .v a], by array_get_dec, ?_, fun _ => ?_⟩
        · array_get_dec
        · simp only [↓br_true, ↓br_false, ↓op_some, ↓wp_bind, ↓wp_pure, ↓wp_fail, ↓wp_opt, ↓wp_guard, ↓wp_v, ↓wp_vB, ↓wp_c, ↓wp_op2, ↓wp_op2L, ↓wp_t, ↓wp_tru, ↓wp_chain, ↓wp_andT, ↓wp_orT, ↓wp_notT, ↓wp_andV, ↓wp_orV, ↓wp_notV, ↓wp_if, ↓wp_nil, ↓wp_cons, ↓wp_tup, ↓wp_lst, ↓wp_D, ↓wp_cb, ↓wp_call, ↓wp_isi, ↓wp_neg, ↓wp_sl, ↓wp_noP, ↓wp_P, ↓wp_yes, ↓wp_items, ↓wp_signs, ↓wp_comp, ↓ws_seq, ↓thn_nx, ↓thn_rt, ↓thn_br, ↓thn_ct, ↓thn_exc, ↓ws_skip, ↓ws_break, ↓ws_cont, ↓ws_retN, ↓ws_set, ↓ws_own, ↓ws_ret, ↓ws_drop, ↓ws_if, ↓ws_asg, ↓ws_par3, ↓ws_par3o, ↓ws_par, ↓ws_setC, ↓wp_newc, ↓ws_app, ↓ws_ext, ↓ws_setI, ↓ws_frz, ↓ws_for, ↓wl_nil, ↓wl_cons, ↓wf_run, ↓retS_nx, ↓retS_rt, ↓lpS_nx, ↓lpS_ct, ↓lpS_br, ↓lpS_rt, ↓turn_nx, ↓turn_ct, ↓turn_br, ↓turn_rt, ↓wp_addI, ↓wp_addS, ↓wp_subI, ↓wp_mulI, ↓wp_divI, ↓wp_modI, ↓wp_powI, ↓wp_cmpI, ↓wp_eq, ↓wp_ne, ↓wp_negI, ↓wp_seqE, ↓wp_lstE, ↓wp_ixL, ↓wp_ixT, ↓wp_ixC, ↓wp_ixS, ↓wp_lenS, ↓wp_lenL, ↓wp_lenT, ↓wp_lenC, ↓wp_absI, ↓wp_intI, ↓wp_intB, ↓wp_intS, ↓wp_strI, ↓wp_boolI, ↓wp_boolB, ↓wp_all, ↓wp_any, ↓wp_sum, ↓wp_max2, ↓wp_min2, ↓wp_list, ↓wp_tuple, ↓wp_sorted, ↓wp_slS, ↓wp_slT, ↓wp_slLD, ↓wp_slC, ↓wp_slL, ↓wp_range1, ↓wp_range2, ↓wp_enum, ↓wp_enumT, ↓wp_zip, ↓wp_zipTT, ↓wp_zipTL, ↓wp_zipLT, ↓wp_cat, ↓wp_rep, ↓wp_inSg, ↓wp_notInSg, ↓wp_inL, ↓wp_inT, ↓wp_notIn, ↓wp_isN, ↓wp_notN, ↓wp_isB, ↓wp_notB, tt1, tt2, tt3, tt4, tt5, tt6, tu1, tu2, tu3, tu4, tu5, tu6, tu7, tu8, tu9, tu10, tu11, tu12, tu13, tu14, tu15, tu16, tu17, tu18, tu19, tu20, tu21, tu22, tu23, tu24, asB_bl, truD_non, truD_bl, truD_int, truD_str, truD_lst, truD_tup, asI_int, asS_str, items_lst, items_tup, items_str, valS_v, valB_v, valB_own, seqD_lst, seqD_tup, seqD_cell0, lstD_lst, lstD_cell0, cellL_0, own_lst, nonB_non, nonB_bl, nonB_int, nonB_str, nonB_lst, nonB_tup, nonB_cell, nonB_obj, bools_nil, bools_cons, ints_nil, ints_cons, eqD_ii, eqD_bb, eqD_ss, eqD_nn, eqD_ni, eqD_in, eqD_nb, eqD_bn, eqD_ns, eqD_sn, eqD_is, eqD_si, eqD_bs, eqD_sb, tag_non, tag_bl, tag_int, tag_str, tag_lst, tag_tup, tag_obj, bindP_nm, bindP_tp, bindP_tl, bindPs_nil, bindPs_cons, ↓wp_get, ↓wp_meth, ↓wp_prop, ↓ws_setF, ↓wp_mk, ↓wp_own, ↓wp_kd, ↓wp_methK, ↓wp_ownNe, ↓wp_own1, ↓wp_ownT, ↓wp_fstr, ↓wp_fFn, ↓wp_fFc, ↓wp_fmtS, ↓wp_fmtI, kok_len, kok_repr, kok_bool, eqD_tt, eqD_ll, plB_non, plB_bl, plB_int, plB_str, plB_lst, plB_tup, eqBs_nn, eqBs_cc, eqBs_nc, eqBs_cn, eqB_ii, eqB_bb, eqB_ss, eqB_nn, eqB_ll, eqB_tt, eqB_ni, eqB_in, eqB_nt, eqB_tn, eqB_it, eqB_ti, ↓wp_addT, ↓wp_addL, ↓wp_mulL, objD_obj, objD_last, cellO_last, set_last, isO_obj, isO_last, putD_nil, putD_cons, lkp_nil, lkp_cons, bel_plain, bels_plain, belF_nil, belF_cons, ↓wp_compN, ↓wp_compC, rng_0, rng_1, rng_2, rng_3, enL_nil, enL_cons, zpL_nil, zpL_nilR, zpL_cons, ↓wp_maxL, ↓wp_minL, maxL_2, maxL_1, minL_2, minL_1, bel_non, bel_bl, bel_int, bel_str, bel_lst, bel_tup, bel_obj, bels_nil, bels_cons, kst_app0, ctl_hi, ctl_lo, ctl_no, kst_inj, ↓wp_rgI1, ↓wp_rgI2, ↓wp_rg1, ↓wp_rg2, ↓wp_callO, kst_beq, ↓ws_appC, ↓wp_compZ, ↓wp_zipM, ↓wp_compLN, ↓wp_compLC, seqD_mL, seqD_mT, seqD_mC, kst_kL, kst_kT, keep_cell, tag_cellL, ↓wp_u, ↓wp_lone, ↓wp_star, dataL_lst, dataL_tup, ↓wp_cu, ↓wp_mu, ↓wp_mku, ↓wp_lmu, isCls_eq, ↓wu_F, ↓wu_S, ↓ws_forM, ↓wfm_lst, ↓wfm_tup, ↓xq_rl0, ↓xq_rl1, ↓xq_raise, ↓xq_exD0, ↓xq_exD1, ↓xq_exS, ↓xq_retS, ↓xq_thn, ↓xq_try, ↓xq_tk_nx, ↓xq_tk_rt, ↓xq_tk_br, ↓xq_tk_ct, ↓xq_tk_exc, ↓xq_ek_nx, ↓xq_ek_rt, ↓xq_xf, ↓xq_xfD, ↓xq_callQ, seqD_cell2, lstD_cell2, cellL_2, seqD_cell3, lstD_cell3, cellL_3, seqD_cell4, lstD_cell4, cellL_4, seqD_cell5, lstD_cell5, cellL_5, ↓xq_inS_nil, ↓xq_inS_cons, ↓xq_cloS, ↓xq_capM, ↓xq_act, ↓xq_lam1, ↓xq_lam2, ↓xq_lam3, ↓xq_lam4, ↓xq_lf, ↓xq_lamF, ↓xq_callZ, ↓xq_lendF, ↓xq_caps_nil, ↓xq_caps, ↓xq_envL_nil, ↓xq_envL, ↓xq_slotL, ↓xq_par2o, ↓xq_inPL, ↓xq_notInPL, ↓xq_clearC, ↓xq_inT, ↓xq_newT, ↓xq_putT, ↓xq_ins, ↓xq_mulT, ↓xq_rev, ↓xq_zip3, kst_rep1, kst_rep2, kst_rep3, kst_rep4, kst_seqL, kst_seqT, zpL_3nil, zpL_3cons, ↓xq_ownOp, ↓xq_ownIn, ↓xq_comp2, EG.runs, EG.run, uOf, ev, evs, evo, evr, evf, mkE, mkL, failL, bopF, copF, bltF, lbltF, env0, wipeE, isiAny, isi1, frzS, Cell.toD, atI_nn, setAt_nn, wp_inSg, Gam.put, clsTab, arrQ, arrP, Pick.of, kwM, rightB, E00, List.map_cons, List.map_nil, List.length_cons, List.length_nil, List.append_nil, List.nil_append, List.cons_append, List.getElem?_cons_zero, List.getElem?_cons_succ, List.getElem?_nil, List.set_cons_zero, List.set_cons_succ, List.filter_cons, List.filter_nil, List.contains_nil, List.elem_nil, Int.reduceNeg, Int.reducePow, nA10, nA2, le_big, Nat.reducePow, Nat.zero_add, Option.map_some, Option.bind_some, Int.reduceLE, Int.reduceToNat, Int.reduceLT, Nat.reduceLT, Nat.reduceAdd, Nat.reduceSub, true_and, and_true, decide_true, decide_false, List.length_append, List.length_map, Nat.reduceLeDiff, Nat.reduceEqDiff, Bool.not_true, Bool.not_false, decide_eq_true_eq, reduceCtorEq, Option.some.injEq, id_eq, List.all_cons, List.all_nil, List.any_cons, List.any_nil, Bool.and_true, Bool.true_and, Bool.and_false, Bool.false_and, Bool.or_true, Bool.or_false, Bool.true_or, Bool.false_or, Int.reduceAdd, Int.reduceSub, beq_self_eq_true, Option.isNone_none, Option.isNone_some, if_true, if_false, ite_true, ite_false, Nat.succ_eq_add_one, Int.natCast_add, Int.natCast_one, Int.cast_ofNat_Int, List.contains_cons, String.reduceEq, List.take_succ_cons, List.take_zero, List.drop_succ_cons, List.drop_zero, List.take_nil, List.drop_nil, List.replicate, Int.natCast_zero, Int.zero_add, hG]
          exact same_spec hF hG n a _ _ μ (List.all_eq_true.mp h a ha) ⟨rfl, rfl⟩
      · simp only [↓br_true, ↓br_false, ↓op_some, ↓wp_bind, ↓wp_pure, ↓wp_fail, ↓wp_opt, ↓wp_guard, ↓wp_v, ↓wp_vB, ↓wp_c, ↓wp_op2, ↓wp_op2L, ↓wp_t, ↓wp_tru, ↓wp_chain, ↓wp_andT, ↓wp_orT, ↓wp_notT, ↓wp_andV, ↓wp_orV, ↓wp_notV, ↓wp_if, ↓wp_nil, ↓wp_cons, ↓wp_tup, ↓wp_lst, ↓wp_D, ↓wp_cb, ↓wp_call, ↓wp_isi, ↓wp_neg, ↓wp_sl, ↓wp_noP, ↓wp_P, ↓wp_yes, ↓wp_items, ↓wp_signs, ↓wp_comp, ↓ws_seq, ↓thn_nx, ↓thn_rt, ↓thn_br, ↓thn_ct, ↓thn_exc, ↓ws_skip, ↓ws_break, ↓ws_cont, ↓ws_retN, ↓ws_set, ↓ws_own, ↓ws_ret, ↓ws_drop, ↓ws_if, ↓ws_asg, ↓ws_par3, ↓ws_par3o, ↓ws_par, ↓ws_setC, ↓wp_newc, ↓ws_app, ↓ws_ext, ↓ws_setI, ↓ws_frz, ↓ws_for, ↓wl_nil, ↓wl_cons, ↓wf_run, ↓retS_nx, ↓retS_rt, ↓lpS_nx, ↓lpS_ct, ↓lpS_br, ↓lpS_rt, ↓turn_nx, ↓turn_ct, ↓turn_br, ↓turn_rt, ↓wp_addI, ↓wp_addS, ↓wp_subI, ↓wp_mulI, ↓wp_divI, ↓wp_modI, ↓wp_powI, ↓wp_cmpI, ↓wp_eq, ↓wp_ne, ↓wp_negI, ↓wp_seqE, ↓wp_lstE, ↓wp_ixL, ↓wp_ixT, ↓wp_ixC, ↓wp_ixS, ↓wp_lenS, ↓wp_lenL, ↓wp_lenT, ↓wp_lenC, ↓wp_absI, ↓wp_intI, ↓wp_intB, ↓wp_intS, ↓wp_strI, ↓wp_boolI, ↓wp_boolB, ↓wp_all, ↓wp_any, ↓wp_sum, ↓wp_max2, ↓wp_min2, ↓wp_list, ↓wp_tuple, ↓wp_sorted, ↓wp_slS, ↓wp_slT, ↓wp_slLD, ↓wp_slC, ↓wp_slL, ↓wp_range1, ↓wp_range2, ↓wp_enum, ↓wp_enumT, ↓wp_zip, ↓wp_zipTT, ↓wp_zipTL, ↓wp_zipLT, ↓wp_cat, ↓wp_rep, ↓wp_inSg, ↓wp_notInSg, ↓wp_inL, ↓wp_inT, ↓wp_notIn, ↓wp_isN, ↓wp_notN, ↓wp_isB, ↓wp_notB, tt1, tt2, tt3, tt4, tt5, tt6, tu1, tu2, tu3, tu4, tu5, tu6, tu7, tu8, tu9, tu10, tu11, tu12, tu13, tu14, tu15, tu16, tu17, tu18, tu19, tu20, tu21, tu22, tu23, tu24, asB_bl, truD_non, truD_bl, truD_int, truD_str, truD_lst, truD_tup, asI_int, asS_str, items_lst, items_tup, items_str, valS_v, valB_v, valB_own, seqD_lst, seqD_tup, seqD_cell0, lstD_lst, lstD_cell0, cellL_0, own_lst, nonB_non, nonB_bl, nonB_int, nonB_str, nonB_lst, nonB_tup, nonB_cell, nonB_obj, bools_nil, bools_cons, ints_nil, ints_cons, eqD_ii, eqD_bb, eqD_ss, eqD_nn, eqD_ni, eqD_in, eqD_nb, eqD_bn, eqD_ns, eqD_sn, eqD_is, eqD_si, eqD_bs, eqD_sb, tag_non, tag_bl, tag_int, tag_str, tag_lst, tag_tup, tag_obj, bindP_nm, bindP_tp, bindP_tl, bindPs_nil, bindPs_cons, ↓wp_get, ↓wp_meth, ↓wp_prop, ↓ws_setF, ↓wp_mk, ↓wp_own, ↓wp_kd, ↓wp_methK, ↓wp_ownNe, ↓wp_own1, ↓wp_ownT, ↓wp_fstr, ↓wp_fFn, ↓wp_fFc, ↓wp_fmtS, ↓wp_fmtI, kok_len, kok_repr, kok_bool, eqD_tt, eqD_ll, plB_non, plB_bl, plB_int, plB_str, plB_lst, plB_tup, eqBs_nn, eqBs_cc, eqBs_nc, eqBs_cn, eqB_ii, eqB_bb, eqB_ss, eqB_nn, eqB_ll, eqB_tt, eqB_ni, eqB_in, eqB_nt, eqB_tn, eqB_it, eqB_ti, ↓wp_addT, ↓wp_addL, ↓wp_mulL, objD_obj, objD_last, cellO_last, set_last, isO_obj, isO_last, putD_nil, putD_cons, lkp_nil, lkp_cons, bel_plain, bels_plain, belF_nil, belF_cons, ↓wp_compN, ↓wp_compC, rng_0, rng_1, rng_2, rng_3, enL_nil, enL_cons, zpL_nil, zpL_nilR, zpL_cons, ↓wp_maxL, ↓wp_minL, maxL_2, maxL_1, minL_2, minL_1, bel_non, bel_bl, bel_int, bel_str, bel_lst, bel_tup, bel_obj, bels_nil, bels_cons, kst_app0, ctl_hi, ctl_lo, ctl_no, kst_inj, ↓wp_rgI1, ↓wp_rgI2, ↓wp_rg1, ↓wp_rg2, ↓wp_callO, kst_beq, ↓ws_appC, ↓wp_compZ, ↓wp_zipM, ↓wp_compLN, ↓wp_compLC, seqD_mL, seqD_mT, seqD_mC, kst_kL, kst_kT, keep_cell, tag_cellL, ↓wp_u, ↓wp_lone, ↓wp_star, dataL_lst, dataL_tup, ↓wp_cu, ↓wp_mu, ↓wp_mku, ↓wp_lmu, isCls_eq, ↓wu_F, ↓wu_S, ↓ws_forM, ↓wfm_lst, ↓wfm_tup, ↓xq_rl0, ↓xq_rl1, ↓xq_raise, ↓xq_exD0, ↓xq_exD1, ↓xq_exS, ↓xq_retS, ↓xq_thn, ↓xq_try, ↓xq_tk_nx, ↓xq_tk_rt, ↓xq_tk_br, ↓xq_tk_ct, ↓xq_tk_exc, ↓xq_ek_nx, ↓xq_ek_rt, ↓xq_xf, ↓xq_xfD, ↓xq_callQ, seqD_cell2, lstD_cell2, cellL_2, seqD_cell3, lstD_cell3, cellL_3, seqD_cell4, lstD_cell4, cellL_4, seqD_cell5, lstD_cell5, cellL_5, ↓xq_inS_nil, ↓xq_inS_cons, ↓xq_cloS, ↓xq_capM, ↓xq_act, ↓xq_lam1, ↓xq_lam2, ↓xq_lam3, ↓xq_lam4, ↓xq_lf, ↓xq_lamF, ↓xq_callZ, ↓xq_lendF, ↓xq_caps_nil, ↓xq_caps, ↓xq_envL_nil, ↓xq_envL, ↓xq_slotL, ↓xq_par2o, ↓xq_inPL, ↓xq_notInPL, ↓xq_clearC, ↓xq_inT, ↓xq_newT, ↓xq_putT, ↓xq_ins, ↓xq_mulT, ↓xq_rev, ↓xq_zip3, kst_rep1, kst_rep2, kst_rep3, kst_rep4, kst_seqL, kst_seqT, zpL_3nil, zpL_3cons, ↓xq_ownOp, ↓xq_ownIn, ↓xq_comp2, EG.runs, EG.run, uOf, ev, evs, evo, evr, evf, mkE, mkL, failL, bopF, copF, bltF, lbltF, env0, wipeE, isiAny, isi1, frzS, Cell.toD, atI_nn, setAt_nn, wp_inSg, Gam.put, clsTab, arrQ, arrP, Pick.of, kwM, rightB, E00, List.map_cons, List.map_nil, List.length_cons, List.length_nil, List.append_nil, List.nil_append, List.cons_append, List.getElem?_cons_zero, List.getElem?_cons_succ, List.getElem?_nil, List.set_cons_zero, List.set_cons_succ, List.filter_cons, List.filter_nil, List.contains_nil, List.elem_nil, Int.reduceNeg, Int.reducePow, nA10, nA2, le_big, Nat.reducePow, Nat.zero_add, Option.map_some, Option.bind_some, Int.reduceLE, Int.reduceToNat, Int.reduceLT, Nat.reduceLT, Nat.reduceAdd, Nat.reduceSub, true_and, and_true, decide_true, decide_false, List.length_append, List.length_map, Nat.reduceLeDiff, Nat.reduceEqDiff, Bool.not_true, Bool.not_false, decide_eq_true_eq, reduceCtorEq, Option.some.injEq, id_eq, List.all_cons, List.all_nil, List.any_cons, List.any_nil, Bool.and_true, Bool.true_and, Bool.and_false, Bool.false_and, Bool.or_true, Bool.or_false, Bool.true_or, Bool.false_or, Int.reduceAdd, Int.reduceSub, beq_self_eq_true, Option.isNone_none, Option.isNone_some, if_true, if_false, ite_true, ite_false, Nat.succ_eq_add_one, Int.natCast_add, Int.natCast_one, Int.cast_ofNat_Int, List.contains_cons, String.reduceEq, List.take_succ_cons, List.take_zero, List.drop_succ_cons, List.drop_zero, List.take_nil, List.drop_nil, List.replicate, Int.natCast_zero, Int.zero_add, b1, b2]
        exact hq
    | non => simp only [↓br_true, ↓br_false, ↓op_some, ↓wp_bind, ↓wp_pure, ↓wp_fail, ↓wp_opt, ↓wp_guard, ↓wp_v, ↓wp_vB, ↓wp_c, ↓wp_op2, ↓wp_op2L, ↓wp_t, ↓wp_tru, ↓wp_chain, ↓wp_andT, ↓wp_orT, ↓wp_notT, ↓wp_andV, ↓wp_orV, ↓wp_notV, ↓wp_if, ↓wp_nil, ↓wp_cons, ↓wp_tup, ↓wp_lst, ↓wp_D, ↓wp_cb, ↓wp_call, ↓wp_isi, ↓wp_neg, ↓wp_sl, ↓wp_noP, ↓wp_P, ↓wp_yes, ↓wp_items, ↓wp_signs, ↓wp_comp, ↓ws_seq, ↓thn_nx, ↓thn_rt, ↓thn_br, ↓thn_ct, ↓thn_exc, ↓ws_skip, ↓ws_break, ↓ws_cont, ↓ws_retN, ↓ws_set, ↓ws_own, ↓ws_ret, ↓ws_drop, ↓ws_if, ↓ws_asg, ↓ws_par3, ↓ws_par3o, ↓ws_par, ↓ws_setC, ↓wp_newc, ↓ws_app, ↓ws_ext, ↓ws_setI, ↓ws_frz, ↓ws_for, ↓wl_nil, ↓wl_cons, ↓wf_run, ↓retS_nx, ↓retS_rt, ↓lpS_nx, ↓lpS_ct, ↓lpS_br, ↓lpS_rt, ↓turn_nx, ↓turn_ct, ↓turn_br, ↓turn_rt, ↓wp_addI, ↓wp_addS, ↓wp_subI, ↓wp_mulI, ↓wp_divI, ↓wp_modI, ↓wp_powI, ↓wp_cmpI, ↓wp_eq, ↓wp_ne, ↓wp_negI, ↓wp_seqE, ↓wp_lstE, ↓wp_ixL, ↓wp_ixT, ↓wp_ixC, ↓wp_ixS, ↓wp_lenS, ↓wp_lenL, ↓wp_lenT, ↓wp_lenC, ↓wp_absI, ↓wp_intI, ↓wp_intB, ↓wp_intS, ↓wp_strI, ↓wp_boolI, ↓wp_boolB, ↓wp_all, ↓wp_any, ↓wp_sum, ↓wp_max2, ↓wp_min2, ↓wp_list, ↓wp_tuple, ↓wp_sorted, ↓wp_slS, ↓wp_slT, ↓wp_slLD, ↓wp_slC, ↓wp_slL, ↓wp_range1, ↓wp_range2, ↓wp_enum, ↓wp_enumT, ↓wp_zip, ↓wp_zipTT, ↓wp_zipTL, ↓wp_zipLT, ↓wp_cat, ↓wp_rep, ↓wp_inSg, ↓wp_notInSg, ↓wp_inL, ↓wp_inT, ↓wp_notIn, ↓wp_isN, ↓wp_notN, ↓wp_isB, ↓wp_notB, tt1, tt2, tt3, tt4, tt5, tt6, tu1, tu2, tu3, tu4, tu5, tu6, tu7, tu8, tu9, tu10, tu11, tu12, tu13, tu14, tu15, tu16, tu17, tu18, tu19, tu20, tu21, tu22, tu23, tu24, asB_bl, truD_non, truD_bl, truD_int, truD_str, truD_lst, truD_tup, asI_int, asS_str, items_lst, items_tup, items_str, valS_v, valB_v, valB_own, seqD_lst, seqD_tup, seqD_cell0, lstD_lst, lstD_cell0, cellL_0, own_lst, nonB_non, nonB_bl, nonB_int, nonB_str, nonB_lst, nonB_tup, nonB_cell, nonB_obj, bools_nil, bools_cons, ints_nil, ints_cons, eqD_ii, eqD_bb, eqD_ss, eqD_nn, eqD_ni, eqD_in, eqD_nb, eqD_bn, eqD_ns, eqD_sn, eqD_is, eqD_si, eqD_bs, eqD_sb, tag_non, tag_bl, tag_int, tag_str, tag_lst, tag_tup, tag_obj, bindP_nm, bindP_tp, bindP_tl, bindPs_nil, bindPs_cons, ↓wp_get, ↓wp_meth, ↓wp_prop, ↓ws_setF, ↓wp_mk, ↓wp_own, ↓wp_kd, ↓wp_methK, ↓wp_ownNe, ↓wp_own1, ↓wp_ownT, ↓wp_fstr, ↓wp_fFn, ↓wp_fFc, ↓wp_fmtS, ↓wp_fmtI, kok_len, kok_repr, kok_bool, eqD_tt, eqD_ll, plB_non, plB_bl, plB_int, plB_str, plB_lst, plB_tup, eqBs_nn, eqBs_cc, eqBs_nc, eqBs_cn, eqB_ii, eqB_bb, eqB_ss, eqB_nn, eqB_ll, eqB_tt, eqB_ni, eqB_in, eqB_nt, eqB_tn, eqB_it, eqB_ti, ↓wp_addT, ↓wp_addL, ↓wp_mulL, objD_obj, objD_last, cellO_last, set_last, isO_obj, isO_last, putD_nil, putD_cons, lkp_nil, lkp_cons, bel_plain, bels_plain, belF_nil, belF_cons, ↓wp_compN, ↓wp_compC, rng_0, rng_1, rng_2, rng_3, enL_nil, enL_cons, zpL_nil, zpL_nilR, zpL_cons, ↓wp_maxL, ↓wp_minL, maxL_2, maxL_1, minL_2, minL_1, bel_non, bel_bl, bel_int, bel_str, bel_lst, bel_tup, bel_obj, bels_nil, bels_cons, kst_app0, ctl_hi, ctl_lo, ctl_no, kst_inj, ↓wp_rgI1, ↓wp_rgI2, ↓wp_rg1, ↓wp_rg2, ↓wp_callO, kst_beq, ↓ws_appC, ↓wp_compZ, ↓wp_zipM, ↓wp_compLN, ↓wp_compLC, seqD_mL, seqD_mT, seqD_mC, kst_kL, kst_kT, keep_cell, tag_cellL, ↓wp_u, ↓wp_lone, ↓wp_star, dataL_lst, dataL_tup, ↓wp_cu, ↓wp_mu, ↓wp_mku, ↓wp_lmu, isCls_eq, ↓wu_F, ↓wu_S, ↓ws_forM, ↓wfm_lst, ↓wfm_tup, ↓xq_rl0, ↓xq_rl1, ↓xq_raise, ↓xq_exD0, ↓xq_exD1, ↓xq_exS, ↓xq_retS, ↓xq_thn, ↓xq_try, ↓xq_tk_nx, ↓xq_tk_rt, ↓xq_tk_br, ↓xq_tk_ct, ↓xq_tk_exc, ↓xq_ek_nx, ↓xq_ek_rt, ↓xq_xf, ↓xq_xfD, ↓xq_callQ, seqD_cell2, lstD_cell2, cellL_2, seqD_cell3, lstD_cell3, cellL_3, seqD_cell4, lstD_cell4, cellL_4, seqD_cell5, lstD_cell5, cellL_5, ↓xq_inS_nil, ↓xq_inS_cons, ↓xq_cloS, ↓xq_capM, ↓xq_act, ↓xq_lam1, ↓xq_lam2, ↓xq_lam3, ↓xq_lam4, ↓xq_lf, ↓xq_lamF, ↓xq_callZ, ↓xq_lendF, ↓xq_caps_nil, ↓xq_caps, ↓xq_envL_nil, ↓xq_envL, ↓xq_slotL, ↓xq_par2o, ↓xq_inPL, ↓xq_notInPL, ↓xq_clearC, ↓xq_inT, ↓xq_newT, ↓xq_putT, ↓xq_ins, ↓xq_mulT, ↓xq_rev, ↓xq_zip3, kst_rep1, kst_rep2, kst_rep3, kst_rep4, kst_seqL, kst_seqT, zpL_3nil, zpL_3cons, ↓xq_ownOp, ↓xq_ownIn, ↓xq_comp2, EG.runs, EG.run, uOf, ev, evs, evo, evr, evf, mkE, mkL, failL, bopF, copF, bltF, lbltF, env0, wipeE, isiAny, isi1, frzS, Cell.toD, atI_nn, setAt_nn, wp_inSg, Gam.put, clsTab, arrQ, arrP, Pick.of, kwM, rightB, E00, List.map_cons, List.map_nil, List.length_cons, List.length_nil, List.append_nil, List.nil_append, List.cons_append, List.getElem?_cons_zero, List.getElem?_cons_succ, List.getElem?_nil, List.set_cons_zero, List.set_cons_succ, List.filter_cons, List.filter_nil, List.contains_nil, List.elem_nil, Int.reduceNeg, Int.reducePow, nA10, nA2, le_big, Nat.reducePow, Nat.zero_add, Option.map_some, Option.bind_some, Int.reduceLE, Int.reduceToNat, Int.reduceLT, Nat.reduceLT, Nat.reduceAdd, Nat.reduceSub, true_and, and_true, decide_true, decide_false, List.length_append, List.length_map, Nat.reduceLeDiff, Nat.reduceEqDiff, Bool.not_true, Bool.not_false, decide_eq_true_eq, reduceCtorEq, Option.some.injEq, id_eq, List.all_cons, List.all_nil, List.any_cons, List.any_nil, Bool.and_true, Bool.true_and, Bool.and_false, Bool.false_and, Bool.or_true, Bool.or_false, Bool.true_or, Bool.false_or, Int.reduceAdd, Int.reduceSub, beq_self_eq_true, Option.isNone_none, Option.isNone_some, if_true, if_false, ite_true, ite_false, Nat.succ_eq_add_one, Int.natCast_add, Int.natCast_one, Int.cast_ofNat_Int, List.contains_cons, String.reduceEq, List.take_succ_cons, List.take_zero, List.drop_succ_cons, List.drop_zero, List.take_nil, List.drop_nil, List.replicate, Int.natCast_zero, Int.zero_add, hG]; exact hq
    | bl b => simp only [↓br_true, ↓br_false, ↓op_some, ↓wp_bind, ↓wp_pure, ↓wp_fail, ↓wp_opt, ↓wp_guard, ↓wp_v, ↓wp_vB, ↓wp_c, ↓wp_op2, ↓wp_op2L, ↓wp_t, ↓wp_tru, ↓wp_chain, ↓wp_andT, ↓wp_orT, ↓wp_notT, ↓wp_andV, ↓wp_orV, ↓wp_notV, ↓wp_if, ↓wp_nil, ↓wp_cons, ↓wp_tup, ↓wp_lst, ↓wp_D, ↓wp_cb, ↓wp_call, ↓wp_isi, ↓wp_neg, ↓wp_sl, ↓wp_noP, ↓wp_P, ↓wp_yes, ↓wp_items, ↓wp_signs, ↓wp_comp, ↓ws_seq, ↓thn_nx, ↓thn_rt, ↓thn_br, ↓thn_ct, ↓thn_exc, ↓ws_skip, ↓ws_break, ↓ws_cont, ↓ws_retN, ↓ws_set, ↓ws_own, ↓ws_ret, ↓ws_drop, ↓ws_if, ↓ws_asg, ↓ws_par3, ↓ws_par3o, ↓ws_par, ↓ws_setC, ↓wp_newc, ↓ws_app, ↓ws_ext, ↓ws_setI, ↓ws_frz, ↓ws_for, ↓wl_nil, ↓wl_cons, ↓wf_run, ↓retS_nx, ↓retS_rt, ↓lpS_nx, ↓lpS_ct, ↓lpS_br, ↓lpS_rt, ↓turn_nx, ↓turn_ct, ↓turn_br, ↓turn_rt, ↓wp_addI, ↓wp_addS, ↓wp_subI, ↓wp_mulI, ↓wp_divI, ↓wp_modI, ↓wp_powI, ↓wp_cmpI, ↓wp_eq, ↓wp_ne, ↓wp_negI, ↓wp_seqE, ↓wp_lstE, ↓wp_ixL, ↓wp_ixT, ↓wp_ixC, ↓wp_ixS, ↓wp_lenS, ↓wp_lenL, ↓wp_lenT, ↓wp_lenC, ↓wp_absI, ↓wp_intI, ↓wp_intB, ↓wp_intS, ↓wp_strI, ↓wp_boolI, ↓wp_boolB, ↓wp_all, ↓wp_any, ↓wp_sum, ↓wp_max2, ↓wp_min2, ↓wp_list, ↓wp_tuple, ↓wp_sorted, ↓wp_slS, ↓wp_slT, ↓wp_slLD, ↓wp_slC, ↓wp_slL, ↓wp_range1, ↓wp_range2, ↓wp_enum, ↓wp_enumT, ↓wp_zip, ↓wp_zipTT, ↓wp_zipTL, ↓wp_zipLT, ↓wp_cat, ↓wp_rep, ↓wp_inSg, ↓wp_notInSg, ↓wp_inL, ↓wp_inT, ↓wp_notIn, ↓wp_isN, ↓wp_notN, ↓wp_isB, ↓wp_notB, tt1, tt2, tt3, tt4, tt5, tt6, tu1, tu2, tu3, tu4, tu5, tu6, tu7, tu8, tu9, tu10, tu11, tu12, tu13, tu14, tu15, tu16, tu17, tu18, tu19, tu20, tu21, tu22, tu23, tu24, asB_bl, truD_non, truD_bl, truD_int, truD_str, truD_lst, truD_tup, asI_int, asS_str, items_lst, items_tup, items_str, valS_v, valB_v, valB_own, seqD_lst, seqD_tup, seqD_cell0, lstD_lst, lstD_cell0, cellL_0, own_lst, nonB_non, nonB_bl, nonB_int, nonB_str, nonB_lst, nonB_tup, nonB_cell, nonB_obj, bools_nil, bools_cons, ints_nil, ints_cons, eqD_ii, eqD_bb, eqD_ss, eqD_nn, eqD_ni, eqD_in, eqD_nb, eqD_bn, eqD_ns, eqD_sn, eqD_is, eqD_si, eqD_bs, eqD_sb, tag_non, tag_bl, tag_int, tag_str, tag_lst, tag_tup, tag_obj, bindP_nm, bindP_tp, bindP_tl, bindPs_nil, bindPs_cons, ↓wp_get, ↓wp_meth, ↓wp_prop, ↓ws_setF, ↓wp_mk, ↓wp_own, ↓wp_kd, ↓wp_methK, ↓wp_ownNe, ↓wp_own1, ↓wp_ownT, ↓wp_fstr, ↓wp_fFn, ↓wp_fFc, ↓wp_fmtS, ↓wp_fmtI, kok_len, kok_repr, kok_bool, eqD_tt, eqD_ll, plB_non, plB_bl, plB_int, plB_str, plB_lst, plB_tup, eqBs_nn, eqBs_cc, eqBs_nc, eqBs_cn, eqB_ii, eqB_bb, eqB_ss, eqB_nn, eqB_ll, eqB_tt, eqB_ni, eqB_in, eqB_nt, eqB_tn, eqB_it, eqB_ti, ↓wp_addT, ↓wp_addL, ↓wp_mulL, objD_obj, objD_last, cellO_last, set_last, isO_obj, isO_last, putD_nil, putD_cons, lkp_nil, lkp_cons, bel_plain, bels_plain, belF_nil, belF_cons, ↓wp_compN, ↓wp_compC, rng_0, rng_1, rng_2, rng_3, enL_nil, enL_cons, zpL_nil, zpL_nilR, zpL_cons, ↓wp_maxL, ↓wp_minL, maxL_2, maxL_1, minL_2, minL_1, bel_non, bel_bl, bel_int, bel_str, bel_lst, bel_tup, bel_obj, bels_nil, bels_cons, kst_app0, ctl_hi, ctl_lo, ctl_no, kst_inj, ↓wp_rgI1, ↓wp_rgI2, ↓wp_rg1, ↓wp_rg2, ↓wp_callO, kst_beq, ↓ws_appC, ↓wp_compZ, ↓wp_zipM, ↓wp_compLN, ↓wp_compLC, seqD_mL, seqD_mT, seqD_mC, kst_kL, kst_kT, keep_cell, tag_cellL, ↓wp_u, ↓wp_lone, ↓wp_star, dataL_lst, dataL_tup, ↓wp_cu, ↓wp_mu, ↓wp_mku, ↓wp_lmu, isCls_eq, ↓wu_F, ↓wu_S, ↓ws_forM, ↓wfm_lst, ↓wfm_tup, ↓xq_rl0, ↓xq_rl1, ↓xq_raise, ↓xq_exD0, ↓xq_exD1, ↓xq_exS, ↓xq_retS, ↓xq_thn, ↓xq_try, ↓xq_tk_nx, ↓xq_tk_rt, ↓xq_tk_br, ↓xq_tk_ct, ↓xq_tk_exc, ↓xq_ek_nx, ↓xq_ek_rt, ↓xq_xf, ↓xq_xfD, ↓xq_callQ, seqD_cell2, lstD_cell2, cellL_2, seqD_cell3, lstD_cell3, cellL_3, seqD_cell4, lstD_cell4, cellL_4, seqD_cell5, lstD_cell5, cellL_5, ↓xq_inS_nil, ↓xq_inS_cons, ↓xq_cloS, ↓xq_capM, ↓xq_act, ↓xq_lam1, ↓xq_lam2, ↓xq_lam3, ↓xq_lam4, ↓xq_lf, ↓xq_lamF, ↓xq_callZ, ↓xq_lendF, ↓xq_caps_nil, ↓xq_caps, ↓xq_envL_nil, ↓xq_envL, ↓xq_slotL, ↓xq_par2o, ↓xq_inPL, ↓xq_notInPL, ↓xq_clearC, ↓xq_inT, ↓xq_newT, ↓xq_putT, ↓xq_ins, ↓xq_mulT, ↓xq_rev, ↓xq_zip3, kst_rep1, kst_rep2, kst_rep3, kst_rep4, kst_seqL, kst_seqT, zpL_3nil, zpL_3cons, ↓xq_ownOp, ↓xq_ownIn, ↓xq_comp2, EG.runs, EG.run, uOf, ev, evs, evo, evr, evf, mkE, mkL, failL, bopF, copF, bltF, lbltF, env0, wipeE, isiAny, isi1, frzS, Cell.toD, atI_nn, setAt_nn, wp_inSg, Gam.put, clsTab, arrQ, arrP, Pick.of, kwM, rightB, E00, List.map_cons, List.map_nil, List.length_cons, List.length_nil, List.append_nil, List.nil_append, List.cons_append, List.getElem?_cons_zero, List.getElem?_cons_succ, List.getElem?_nil, List.set_cons_zero, List.set_cons_succ, List.filter_cons, List.filter_nil, List.contains_nil, List.elem_nil, Int.reduceNeg, Int.reducePow, nA10, nA2, le_big, Nat.reducePow, Nat.zero_add, Option.map_some, Option.bind_some, Int.reduceLE, Int.reduceToNat, Int.reduceLT, Nat.reduceLT, Nat.reduceAdd, Nat.reduceSub, true_and, and_true, decide_true, decide_false, List.length_append, List.length_map, Nat.reduceLeDiff, Nat.reduceEqDiff, Bool.not_true, Bool.not_false, decide_eq_true_eq, reduceCtorEq, Option.some.injEq, id_eq, List.all_cons, List.all_nil, List.any_cons, List.any_nil, Bool.and_true, Bool.true_and, Bool.and_false, Bool.false_and, Bool.or_true, Bool.or_false, Bool.true_or, Bool.false_or, Int.reduceAdd, Int.reduceSub, beq_self_eq_true, Option.isNone_none, Option.isNone_some, if_true, if_false, ite_true, ite_false, Nat.succ_eq_add_one, Int.natCast_add, Int.natCast_one, Int.cast_ofNat_Int, List.contains_cons, String.reduceEq, List.take_succ_cons, List.take_zero, List.drop_succ_cons, List.drop_zero, List.take_nil, List.drop_nil, List.replicate, Int.natCast_zero, Int.zero_add, hG]; exact hq
    | int b => simp only [↓br_true, ↓br_false, ↓op_some, ↓wp_bind, ↓wp_pure, ↓wp_fail, ↓wp_opt, ↓wp_guard, ↓wp_v, ↓wp_vB, ↓wp_c, ↓wp_op2, ↓wp_op2L, ↓wp_t, ↓wp_tru, ↓wp_chain, ↓wp_andT, ↓wp_orT, ↓wp_notT, ↓wp_andV, ↓wp_orV, ↓wp_notV, ↓wp_if, ↓wp_nil, ↓wp_cons, ↓wp_tup, ↓wp_lst, ↓wp_D, ↓wp_cb, ↓wp_call, ↓wp_isi, ↓wp_neg, ↓wp_sl, ↓wp_noP, ↓wp_P, ↓wp_yes, ↓wp_items, ↓wp_signs, ↓wp_comp, ↓ws_seq, ↓thn_nx, ↓thn_rt, ↓thn_br, ↓thn_ct, ↓thn_exc, ↓ws_skip, ↓ws_break, ↓ws_cont, ↓ws_retN, ↓ws_set, ↓ws_own, ↓ws_ret, ↓ws_drop, ↓ws_if, ↓ws_asg, ↓ws_par3, ↓ws_par3o, ↓ws_par, ↓ws_setC, ↓wp_newc, ↓ws_app, ↓ws_ext, ↓ws_setI, ↓ws_frz, ↓ws_for, ↓wl_nil, ↓wl_cons, ↓wf_run, ↓retS_nx, ↓retS_rt, ↓lpS_nx, ↓lpS_ct, ↓lpS_br, ↓lpS_rt, ↓turn_nx, ↓turn_ct, ↓turn_br, ↓turn_rt, ↓wp_addI, ↓wp_addS, ↓wp_subI, ↓wp_mulI, ↓wp_divI, ↓wp_modI, ↓wp_powI, ↓wp_cmpI, ↓wp_eq, ↓wp_ne, ↓wp_negI, ↓wp_seqE, ↓wp_lstE, ↓wp_ixL, ↓wp_ixT, ↓wp_ixC, ↓wp_ixS, ↓wp_lenS, ↓wp_lenL, ↓wp_lenT, ↓wp_lenC, ↓wp_absI, ↓wp_intI, ↓wp_intB, ↓wp_intS, ↓wp_strI, ↓wp_boolI, ↓wp_boolB, ↓wp_all, ↓wp_any, ↓wp_sum, ↓wp_max2, ↓wp_min2, ↓wp_list, ↓wp_tuple, ↓wp_sorted, ↓wp_slS, ↓wp_slT, ↓wp_slLD, ↓wp_slC, ↓wp_slL, ↓wp_range1, ↓wp_range2, ↓wp_enum, ↓wp_enumT, ↓wp_zip, ↓wp_zipTT, ↓wp_zipTL, ↓wp_zipLT, ↓wp_cat, ↓wp_rep, ↓wp_inSg, ↓wp_notInSg, ↓wp_inL, ↓wp_inT, ↓wp_notIn, ↓wp_isN, ↓wp_notN, ↓wp_isB, ↓wp_notB, tt1, tt2, tt3, tt4, tt5, tt6, tu1, tu2, tu3, tu4, tu5, tu6, tu7, tu8, tu9, tu10, tu11, tu12, tu13, tu14, tu15, tu16, tu17, tu18, tu19, tu20, tu21, tu22, tu23, tu24, asB_bl, truD_non, truD_bl, truD_int, truD_str, truD_lst, truD_tup, asI_int, asS_str, items_lst, items_tup, items_str, valS_v, valB_v, valB_own, seqD_lst, seqD_tup, seqD_cell0, lstD_lst, lstD_cell0, cellL_0, own_lst, nonB_non, nonB_bl, nonB_int, nonB_str, nonB_lst, nonB_tup, nonB_cell, nonB_obj, bools_nil, bools_cons, ints_nil, ints_cons, eqD_ii, eqD_bb, eqD_ss, eqD_nn, eqD_ni, eqD_in, eqD_nb, eqD_bn, eqD_ns, eqD_sn, eqD_is, eqD_si, eqD_bs, eqD_sb, tag_non, tag_bl, tag_int, tag_str, tag_lst, tag_tup, tag_obj, bindP_nm, bindP_tp, bindP_tl, bindPs_nil, bindPs_cons, ↓wp_get, ↓wp_meth, ↓wp_prop, ↓ws_setF, ↓wp_mk, ↓wp_own, ↓wp_kd, ↓wp_methK, ↓wp_ownNe, ↓wp_own1, ↓wp_ownT, ↓wp_fstr, ↓wp_fFn, ↓wp_fFc, ↓wp_fmtS, ↓wp_fmtI, kok_len, kok_repr, kok_bool, eqD_tt, eqD_ll, plB_non, plB_bl, plB_int, plB_str, plB_lst, plB_tup, eqBs_nn, eqBs_cc, eqBs_nc, eqBs_cn, eqB_ii, eqB_bb, eqB_ss, eqB_nn, eqB_ll, eqB_tt, eqB_ni, eqB_in, eqB_nt, eqB_tn, eqB_it, eqB_ti, ↓wp_addT, ↓wp_addL, ↓wp_mulL, objD_obj, objD_last, cellO_last, set_last, isO_obj, isO_last, putD_nil, putD_cons, lkp_nil, lkp_cons, bel_plain, bels_plain, belF_nil, belF_cons, ↓wp_compN, ↓wp_compC, rng_0, rng_1, rng_2, rng_3, enL_nil, enL_cons, zpL_nil, zpL_nilR, zpL_cons, ↓wp_maxL, ↓wp_minL, maxL_2, maxL_1, minL_2, minL_1, bel_non, bel_bl, bel_int, bel_str, bel_lst, bel_tup, bel_obj, bels_nil, bels_cons, kst_app0, ctl_hi, ctl_lo, ctl_no, kst_inj, ↓wp_rgI1, ↓wp_rgI2, ↓wp_rg1, ↓wp_rg2, ↓wp_callO, kst_beq, ↓ws_appC, ↓wp_compZ, ↓wp_zipM, ↓wp_compLN, ↓wp_compLC, seqD_mL, seqD_mT, seqD_mC, kst_kL, kst_kT, keep_cell, tag_cellL, ↓wp_u, ↓wp_lone, ↓wp_star, dataL_lst, dataL_tup, ↓wp_cu, ↓wp_mu, ↓wp_mku, ↓wp_lmu, isCls_eq, ↓wu_F, ↓wu_S, ↓ws_forM, ↓wfm_lst, ↓wfm_tup, ↓xq_rl0, ↓xq_rl1, ↓xq_raise, ↓xq_exD0, ↓xq_exD1, ↓xq_exS, ↓xq_retS, ↓xq_thn, ↓xq_try, ↓xq_tk_nx, ↓xq_tk_rt, ↓xq_tk_br, ↓xq_tk_ct, ↓xq_tk_exc, ↓xq_ek_nx, ↓xq_ek_rt, ↓xq_xf, ↓xq_xfD, ↓xq_callQ, seqD_cell2, lstD_cell2, cellL_2, seqD_cell3, lstD_cell3, cellL_3, seqD_cell4, lstD_cell4, cellL_4, seqD_cell5, lstD_cell5, cellL_5, ↓xq_inS_nil, ↓xq_inS_cons, ↓xq_cloS, ↓xq_capM, ↓xq_act, ↓xq_lam1, ↓xq_lam2, ↓xq_lam3, ↓xq_lam4, ↓xq_lf, ↓xq_lamF, ↓xq_callZ, ↓xq_lendF, ↓xq_caps_nil, ↓xq_caps, ↓xq_envL_nil, ↓xq_envL, ↓xq_slotL, ↓xq_par2o, ↓xq_inPL, ↓xq_notInPL, ↓xq_clearC, ↓xq_inT, ↓xq_newT, ↓xq_putT, ↓xq_ins, ↓xq_mulT, ↓xq_rev, ↓xq_zip3, kst_rep1, kst_rep2, kst_rep3, kst_rep4, kst_seqL, kst_seqT, zpL_3nil, zpL_3cons, ↓xq_ownOp, ↓xq_ownIn, ↓xq_comp2, EG.runs, EG.run, uOf, ev, evs, evo, evr, evf, mkE, mkL, failL, bopF, copF, bltF, lbltF, env0, wipeE, isiAny, isi1, frzS, Cell.toD, atI_nn, setAt_nn, wp_inSg, Gam.put, clsTab, arrQ, arrP, Pick.of, kwM, rightB, E00, List.map_cons, List.map_nil, List.length_cons, List.length_nil, List.append_nil, List.nil_append, List.cons_append, List.getElem?_cons_zero, List.getElem?_cons_succ, List.getElem?_nil, List.set_cons_zero, List.set_cons_succ, List.filter_cons, List.filter_nil, List.contains_nil, List.elem_nil, Int.reduceNeg, Int.reducePow, nA10, nA2, le_big, Nat.reducePow, Nat.zero_add, Option.map_some, Option.bind_some, Int.reduceLE, Int.reduceToNat, Int.reduceLT, Nat.reduceLT, Nat.reduceAdd, Nat.reduceSub, true_and, and_true, decide_true, decide_false, List.length_append, List.length_map, Nat.reduceLeDiff, Nat.reduceEqDiff, Bool.not_true, Bool.not_false, decide_eq_true_eq, reduceCtorEq, Option.some.injEq, id_eq, List.all_cons, List.all_nil, List.any_cons, List.any_nil, Bool.and_true, Bool.true_and, Bool.and_false, Bool.false_and, Bool.or_true, Bool.or_false, Bool.true_or, Bool.false_or, Int.reduceAdd, Int.reduceSub, beq_self_eq_true, Option.isNone_none, Option.isNone_some, if_true, if_false, ite_true, ite_false, Nat.succ_eq_add_one, Int.natCast_add, Int.natCast_one, Int.cast_ofNat_Int, List.contains_cons, String.reduceEq, List.take_succ_cons, List.take_zero, List.drop_succ_cons, List.drop_zero, List.take_nil, List.drop_nil, List.replicate, Int.natCast_zero, Int.zero_add, hG]; exact hq
    | str b => simp only [↓br_true, ↓br_false, ↓op_some, ↓wp_bind, ↓wp_pure, ↓wp_fail, ↓wp_opt, ↓wp_guard, ↓wp_v, ↓wp_vB, ↓wp_c, ↓wp_op2, ↓wp_op2L, ↓wp_t, ↓wp_tru, ↓wp_chain, ↓wp_andT, ↓wp_orT, ↓wp_notT, ↓wp_andV, ↓wp_orV, ↓wp_notV, ↓wp_if, ↓wp_nil, ↓wp_cons, ↓wp_tup, ↓wp_lst, ↓wp_D, ↓wp_cb, ↓wp_call, ↓wp_isi, ↓wp_neg, ↓wp_sl, ↓wp_noP, ↓wp_P, ↓wp_yes, ↓wp_items, ↓wp_signs, ↓wp_comp, ↓ws_seq, ↓thn_nx, ↓thn_rt, ↓thn_br, ↓thn_ct, ↓thn_exc, ↓ws_skip, ↓ws_break, ↓ws_cont, ↓ws_retN, ↓ws_set, ↓ws_own, ↓ws_ret, ↓ws_drop, ↓ws_if, ↓ws_asg, ↓ws_par3, ↓ws_par3o, ↓ws_par, ↓ws_setC, ↓wp_newc, ↓ws_app, ↓ws_ext, ↓ws_setI, ↓ws_frz, ↓ws_for, ↓wl_nil, ↓wl_cons, ↓wf_run, ↓retS_nx, ↓retS_rt, ↓lpS_nx, ↓lpS_ct, ↓lpS_br, ↓lpS_rt, ↓turn_nx, ↓turn_ct, ↓turn_br, ↓turn_rt, ↓wp_addI, ↓wp_addS, ↓wp_subI, ↓wp_mulI, ↓wp_divI, ↓wp_modI, ↓wp_powI, ↓wp_cmpI, ↓wp_eq, ↓wp_ne, ↓wp_negI, ↓wp_seqE, ↓wp_lstE, ↓wp_ixL, ↓wp_ixT, ↓wp_ixC, ↓wp_ixS, ↓wp_lenS, ↓wp_lenL, ↓wp_lenT, ↓wp_lenC, ↓wp_absI, ↓wp_intI, ↓wp_intB, ↓wp_intS, ↓wp_strI, ↓wp_boolI, ↓wp_boolB, ↓wp_all, ↓wp_any, ↓wp_sum, ↓wp_max2, ↓wp_min2, ↓wp_list, ↓wp_tuple, ↓wp_sorted, ↓wp_slS, ↓wp_slT, ↓wp_slLD, ↓wp_slC, ↓wp_slL, ↓wp_range1, ↓wp_range2, ↓wp_enum, ↓wp_enumT, ↓wp_zip, ↓wp_zipTT, ↓wp_zipTL, ↓wp_zipLT, ↓wp_cat, ↓wp_rep, ↓wp_inSg, ↓wp_notInSg, ↓wp_inL, ↓wp_inT, ↓wp_notIn, ↓wp_isN, ↓wp_notN, ↓wp_isB, ↓wp_notB, tt1, tt2, tt3, tt4, tt5, tt6, tu1, tu2, tu3, tu4, tu5, tu6, tu7, tu8, tu9, tu10, tu11, tu12, tu13, tu14, tu15, tu16, tu17, tu18, tu19, tu20, tu21, tu22, tu23, tu24, asB_bl, truD_non, truD_bl, truD_int, truD_str, truD_lst, truD_tup, asI_int, asS_str, items_lst, items_tup, items_str, valS_v, valB_v, valB_own, seqD_lst, seqD_tup, seqD_cell0, lstD_lst, lstD_cell0, cellL_0, own_lst, nonB_non, nonB_bl, nonB_int, nonB_str, nonB_lst, nonB_tup, nonB_cell, nonB_obj, bools_nil, bools_cons, ints_nil, ints_cons, eqD_ii, eqD_bb, eqD_ss, eqD_nn, eqD_ni, eqD_in, eqD_nb, eqD_bn, eqD_ns, eqD_sn, eqD_is, eqD_si, eqD_bs, eqD_sb, tag_non, tag_bl, tag_int, tag_str, tag_lst, tag_tup, tag_obj, bindP_nm, bindP_tp, bindP_tl, bindPs_nil, bindPs_cons, ↓wp_get, ↓wp_meth, ↓wp_prop, ↓ws_setF, ↓wp_mk, ↓wp_own, ↓wp_kd, ↓wp_methK, ↓wp_ownNe, ↓wp_own1, ↓wp_ownT, ↓wp_fstr, ↓wp_fFn, ↓wp_fFc, ↓wp_fmtS, ↓wp_fmtI, kok_len, kok_repr, kok_bool, eqD_tt, eqD_ll, plB_non, plB_bl, plB_int, plB_str, plB_lst, plB_tup, eqBs_nn, eqBs_cc, eqBs_nc, eqBs_cn, eqB_ii, eqB_bb, eqB_ss, eqB_nn, eqB_ll, eqB_tt, eqB_ni, eqB_in, eqB_nt, eqB_tn, eqB_it, eqB_ti, ↓wp_addT, ↓wp_addL, ↓wp_mulL, objD_obj, objD_last, cellO_last, set_last, isO_obj, isO_last, putD_nil, putD_cons, lkp_nil, lkp_cons, bel_plain, bels_plain, belF_nil, belF_cons, ↓wp_compN, ↓wp_compC, rng_0, rng_1, rng_2, rng_3, enL_nil, enL_cons, zpL_nil, zpL_nilR, zpL_cons, ↓wp_maxL, ↓wp_minL, maxL_2, maxL_1, minL_2, minL_1, bel_non, bel_bl, bel_int, bel_str, bel_lst, bel_tup, bel_obj, bels_nil, bels_cons, kst_app0, ctl_hi, ctl_lo, ctl_no, kst_inj, ↓wp_rgI1, ↓wp_rgI2, ↓wp_rg1, ↓wp_rg2, ↓wp_callO, kst_beq, ↓ws_appC, ↓wp_compZ, ↓wp_zipM, ↓wp_compLN, ↓wp_compLC, seqD_mL, seqD_mT, seqD_mC, kst_kL, kst_kT, keep_cell, tag_cellL, ↓wp_u, ↓wp_lone, ↓wp_star, dataL_lst, dataL_tup, ↓wp_cu, ↓wp_mu, ↓wp_mku, ↓wp_lmu, isCls_eq, ↓wu_F, ↓wu_S, ↓ws_forM, ↓wfm_lst, ↓wfm_tup, ↓xq_rl0, ↓xq_rl1, ↓xq_raise, ↓xq_exD0, ↓xq_exD1, ↓xq_exS, ↓xq_retS, ↓xq_thn, ↓xq_try, ↓xq_tk_nx, ↓xq_tk_rt, ↓xq_tk_br, ↓xq_tk_ct, ↓xq_tk_exc, ↓xq_ek_nx, ↓xq_ek_rt, ↓xq_xf, ↓xq_xfD, ↓xq_callQ, seqD_cell2, lstD_cell2, cellL_2, seqD_cell3, lstD_cell3, cellL_3, seqD_cell4, lstD_cell4, cellL_4, seqD_cell5, lstD_cell5, cellL_5, ↓xq_inS_nil, ↓xq_inS_cons, ↓xq_cloS, ↓xq_capM, ↓xq_act, ↓xq_lam1, ↓xq_lam2, ↓xq_lam3, ↓xq_lam4, ↓xq_lf, ↓xq_lamF, ↓xq_callZ, ↓xq_lendF, ↓xq_caps_nil, ↓xq_caps, ↓xq_envL_nil, ↓xq_envL, ↓xq_slotL, ↓xq_par2o, ↓xq_inPL, ↓xq_notInPL, ↓xq_clearC, ↓xq_inT, ↓xq_newT, ↓xq_putT, ↓xq_ins, ↓xq_mulT, ↓xq_rev, ↓xq_zip3, kst_rep1, kst_rep2, kst_rep3, kst_rep4, kst_seqL, kst_seqT, zpL_3nil, zpL_3cons, ↓xq_ownOp, ↓xq_ownIn, ↓xq_comp2, EG.runs, EG.run, uOf, ev, evs, evo, evr, evf, mkE, mkL, failL, bopF, copF, bltF, lbltF, env0, wipeE, isiAny, isi1, frzS, Cell.toD, atI_nn, setAt_nn, wp_inSg, Gam.put, clsTab, arrQ, arrP, Pick.of, kwM, rightB, E00, List.map_cons, List.map_nil, List.length_cons, List.length_nil, List.append_nil, List.nil_append, List.cons_append, List.getElem?_cons_zero, List.getElem?_cons_succ, List.getElem?_nil, List.set_cons_zero, List.set_cons_succ, List.filter_cons, List.filter_nil, List.contains_nil, List.elem_nil, Int.reduceNeg, Int.reducePow, nA10, nA2, le_big, Nat.reducePow, Nat.zero_add, Option.map_some, Option.bind_some, Int.reduceLE, Int.reduceToNat, Int.reduceLT, Nat.reduceLT, Nat.reduceAdd, Nat.reduceSub, true_and, and_true, decide_true, decide_false, List.length_append, List.length_map, Nat.reduceLeDiff, Nat.reduceEqDiff, Bool.not_true, Bool.not_false, decide_eq_true_eq, reduceCtorEq, Option.some.injEq, id_eq, List.all_cons, List.all_nil, List.any_cons, List.any_nil, Bool.and_true, Bool.true_and, Bool.and_false, Bool.false_and, Bool.or_true, Bool.or_false, Bool.true_or, Bool.false_or, Int.reduceAdd, Int.reduceSub, beq_self_eq_true, Option.isNone_none, Option.isNone_some, if_true, if_false, ite_true, ite_false, Nat.succ_eq_add_one, Int.natCast_add, Int.natCast_one, Int.cast_ofNat_Int, List.contains_cons, String.reduceEq, List.take_succ_cons, List.take_zero, List.drop_succ_cons, List.drop_zero, List.take_nil, List.drop_nil, List.replicate, Int.natCast_zero, Int.zero_add, hG]; exact hq
    | _ => cases h
end
end EG
namespace EGL
open PySem L2 EG
local macro_rules
  | `(tactic| array_get_dec) => `(tactic| simp only [↓br_true, ↓br_false, ↓op_some, ↓wp_bind, ↓wp_pure, ↓wp_fail, ↓wp_opt, ↓wp_guard, ↓wp_v, ↓wp_vB, ↓wp_c, ↓wp_op2, ↓wp_op2L, ↓wp_t, ↓wp_tru, ↓wp_chain, ↓wp_andT, ↓wp_orT, ↓wp_notT, ↓wp_andV, ↓wp_orV, ↓wp_notV, ↓wp_if, ↓wp_nil, ↓wp_cons, ↓wp_tup, ↓wp_lst, ↓wp_D, ↓wp_cb, ↓wp_call, ↓wp_isi, ↓wp_neg, ↓wp_sl, ↓wp_noP, ↓wp_P, ↓wp_yes, ↓wp_items, ↓wp_signs, ↓wp_comp, ↓ws_seq, ↓thn_nx, ↓thn_rt, ↓thn_br, ↓thn_ct, ↓thn_exc, ↓ws_skip, ↓ws_break, ↓ws_cont, ↓ws_retN, ↓ws_set, ↓ws_own, ↓ws_ret, ↓ws_drop, ↓ws_if, ↓ws_asg, ↓ws_par3, ↓ws_par3o, ↓ws_par, ↓ws_setC, ↓wp_newc, ↓ws_app, ↓ws_ext, ↓ws_setI, ↓ws_frz, ↓ws_for, ↓wl_nil, ↓wl_cons, ↓wf_run, ↓retS_nx, ↓retS_rt, ↓lpS_nx, ↓lpS_ct, ↓lpS_br, ↓lpS_rt, ↓turn_nx, ↓turn_ct, ↓turn_br, ↓turn_rt, ↓wp_addI, ↓wp_addS, ↓wp_subI, ↓wp_mulI, ↓wp_divI, ↓wp_modI, ↓wp_powI, ↓wp_cmpI, ↓wp_eq, ↓wp_ne, ↓wp_negI, ↓wp_seqE, ↓wp_lstE, ↓wp_ixL, ↓wp_ixT, ↓wp_ixC, ↓wp_ixS, ↓wp_lenS, ↓wp_lenL, ↓wp_lenT, ↓wp_lenC, ↓wp_absI, ↓wp_intI, ↓wp_intB, ↓wp_intS, ↓wp_strI, ↓wp_boolI, ↓wp_boolB, ↓wp_all, ↓wp_any, ↓wp_sum, ↓wp_max2, ↓wp_min2, ↓wp_minT, ↓wp_list, ↓wp_tuple, ↓wp_sorted, ↓wp_slS, ↓wp_slT, ↓wp_slLD, ↓wp_slC, ↓wp_slL, ↓wp_range1, ↓wp_range2, ↓wp_enum, ↓wp_enumT, ↓wp_zip, ↓wp_zipTT, ↓wp_zipTL, ↓wp_zipLT, ↓wp_cat, ↓wp_rep, ↓wp_inSg, ↓wp_notInSg, ↓wp_inL, ↓wp_inT, ↓wp_notIn, ↓wp_isN, ↓wp_notN, ↓wp_isB, ↓wp_notB, tt1, tt2, tt3, tt4, tt5, tt6, tu1, tu2, tu3, tu4, tu5, tu6, tu7, tu8, tu9, tu10, tu11, tu12, tu13, tu14, tu15, tu16, tu17, tu18, tu19, tu20, tu21, tu22, tu23, tu24, asB_bl, truD_non, truD_bl, truD_int, truD_str, truD_lst, truD_tup, asI_int, asS_str, items_lst, items_tup, items_str, valS_v, valB_v, valB_own, seqD_lst, seqD_tup, seqD_cell0, lstD_lst, lstD_cell0, cellL_0, own_lst, nonB_non, nonB_bl, nonB_int, nonB_str, nonB_lst, nonB_tup, nonB_cell, nonB_obj, bools_nil, bools_cons, ints_nil, ints_cons, eqD_ii, eqD_bb, eqD_ss, eqD_nn, eqD_ni, eqD_in, eqD_nb, eqD_bn, eqD_ns, eqD_sn, eqD_is, eqD_si, eqD_bs, eqD_sb, tag_non, tag_bl, tag_int, tag_str, tag_lst, tag_tup, tag_obj, bindP_nm, bindP_tp, bindP_tl, bindPs_nil, bindPs_cons, ↓wp_get, ↓wp_meth, ↓wp_prop, ↓ws_setF, ↓wp_mk, ↓wp_own, ↓wp_kd, ↓wp_methK, ↓wp_ownNe, ↓wp_own1, ↓wp_ownT, ↓wp_fstr, ↓wp_fFn, ↓wp_fFc, ↓wp_fmtS, ↓wp_fmtI, kok_len, kok_repr, kok_bool, eqD_tt, eqD_ll, plB_non, plB_bl, plB_int, plB_str, plB_lst, plB_tup, eqBs_nn, eqBs_cc, eqBs_nc, eqBs_cn, eqB_ii, eqB_bb, eqB_ss, eqB_nn, eqB_ll, eqB_tt, eqB_ni, eqB_in, eqB_nt, eqB_tn, eqB_it, eqB_ti, ↓wp_addT, ↓wp_addL, ↓wp_mulL, objD_obj, objD_last, cellO_last, set_last, isO_obj, isO_last, putD_nil, putD_cons, lkp_nil, lkp_cons, bel_plain, bels_plain, belF_nil, belF_cons, ↓wp_compN, ↓wp_compC, rng_0, rng_1, rng_2, rng_3, enL_nil, enL_cons, zpL_nil, zpL_nilR, zpL_cons, ↓wp_maxL, ↓wp_minL, maxL_2, maxL_1, minL_2, minL_1, bel_non, bel_bl, bel_int, bel_str, bel_lst, bel_tup, bel_obj, bels_nil, bels_cons, kst_app0, ctl_hi, ctl_lo, ctl_no, kst_inj, ↓wp_rgI1, ↓wp_rgI2, ↓wp_rg1, ↓wp_rg2, ↓wp_callO, kst_beq, ↓ws_appC, ↓wp_compZ, ↓wp_zipM, ↓wp_compLN, ↓wp_compLC, seqD_mL, seqD_mT, seqD_mC, kst_kL, kst_kT, keep_cell, tag_cellL, ↓wp_u, ↓wp_lone, ↓wp_star, dataL_lst, dataL_tup, ↓wp_cu, ↓wp_mu, ↓wp_mku, ↓wp_lmu, isCls_eq, ↓wu_F, ↓wu_S, ↓ws_forM, ↓wfm_lst, ↓wfm_tup, ↓xq_rl0, ↓xq_rl1, ↓xq_raise, ↓xq_exD0, ↓xq_exD1, ↓xq_exS, ↓xq_retS, ↓xq_thn, ↓xq_try, ↓xq_tk_nx, ↓xq_tk_rt, ↓xq_tk_br, ↓xq_tk_ct, ↓xq_tk_exc, ↓xq_ek_nx, ↓xq_ek_rt, ↓xq_xf, ↓xq_xfD, ↓xq_callQ, seqD_cell2, lstD_cell2, cellL_2, seqD_cell3, lstD_cell3, cellL_3, seqD_cell4, lstD_cell4, cellL_4, seqD_cell5, lstD_cell5, cellL_5, ↓xq_inS_nil, ↓xq_inS_cons, ↓xq_cloS, ↓xq_capM, ↓xq_act, ↓xq_lam1, ↓xq_lam2, ↓xq_lam3, ↓xq_lam4, ↓xq_lf, ↓xq_lamF, ↓xq_callZ, ↓xq_lendF, ↓xq_caps_nil, ↓xq_caps, ↓xq_envL_nil, ↓xq_envL, ↓xq_slotL, ↓xq_par2o, ↓xq_inPL, ↓xq_notInPL, ↓xq_clearC, ↓xq_inT, ↓xq_newT, ↓xq_putT, ↓xq_ins, ↓xq_mulT, ↓xq_rev, ↓xq_zip3, kst_rep1, kst_rep2, kst_rep3, kst_rep4, kst_seqL, kst_seqT, zpL_3nil, zpL_3cons, ↓xq_ownOp, ↓xq_ownIn, ↓xq_comp2, asStr_str, asStr_int, strsK_nil, strsK_cons, ↓xq_fM1, ↓xq_join, ↓xq_split, ↓xq_fW, ↓xq_fW2, ↓xq_wIn, ↓xq_wIx, ↓xq_wGet, ↓xq_tryP, ↓xq_c2n, ↓xq_c2c, ↓xq_slN, ↓xq_tp_nx, ↓xq_tp_rt, ↓xq_tp_br, ↓xq_tp_ct, ↓xq_keyI, ↓xq_keyS, ↓xq_inK, ↓xq_ixK, ↓xq_oKO, ↓xq_newK, ↓xq_putKV, ↓xq_putK, ↓xq_three, ↓xq_setV, ↓xq_put2n, ↓xq_parKK, ↓xq_par2f, ↓xq_dcomp, ↓xq_wwS_nx, ↓xq_wwS_ct, ↓xq_wwS_br, ↓xq_wwS_rt, ↓xq_wwS_exc, ↓xq_compM, ↓xq_orN, ↓xq_orN_non, EG.runs, EG.run, uOf, ev, evs, evo, evr, evf, mkE, mkL, failL, bopF, copF, bltF, lbltF, env0, wipeE, isiAny, isi1, frzS, Cell.toD, atI_nn, setAt_nn, wp_inSg, Gam.put, clsTab, arrQ, arrP, Pick.of, kwM, rightB, E00, List.map_cons, List.map_nil, List.length_cons, List.length_nil, List.append_nil, List.nil_append, List.cons_append, List.getElem?_cons_zero, List.getElem?_cons_succ, List.getElem?_nil, List.set_cons_zero, List.set_cons_succ, List.filter_cons, List.filter_nil, List.contains_nil, List.elem_nil, Int.reduceNeg, Int.reducePow, nA10, nA2, le_big, Nat.reducePow, Nat.zero_add, Option.map_some, Option.bind_some, Int.reduceLE, Int.reduceToNat, Int.reduceLT, Nat.reduceLT, Nat.reduceAdd, Nat.reduceSub, true_and, and_true, decide_true, decide_false, List.length_append, List.length_map, Nat.reduceLeDiff, Nat.reduceEqDiff, Bool.not_true, Bool.not_false, decide_eq_true_eq, reduceCtorEq, Option.some.injEq, id_eq, List.all_cons, List.all_nil, List.any_cons, List.any_nil, Bool.and_true, Bool.true_and, Bool.and_false, Bool.false_and, Bool.or_true, Bool.or_false, Bool.true_or, Bool.false_or, Int.reduceAdd, Int.reduceSub, beq_self_eq_true, Option.isNone_none, Option.isNone_some, if_true, if_false, ite_true, ite_false, Nat.succ_eq_add_one, Int.natCast_add, Int.natCast_one, Int.cast_ofNat_Int, List.contains_cons, String.reduceEq, List.take_succ_cons, List.take_zero, List.drop_succ_cons, List.drop_zero, List.take_nil, List.drop_nil, List.replicate, Int.natCast_zero, Int.zero_add, kG0, kConsts, kFrees, kCls, kxt_0, kxt_1, kxt_2, kxt_3, kxt_4, kxt_5, kxt_6, kxt_7, kxt_8, kxt_9, kxt_10, kxt_11, kxt_12, kxt_13, kxt_14, kxt_15, kxt_16, kxt_17, kxt_18, kxt_19, kxt_20, kxt_21, kxt_22, kxt_23, kxt_24, kxt_25, kxt_26, kxt_27, kxt_28, kxt_29, kxt_30, kxt_31, kxt_32, kxt_33, kxt_34, kxt_35, kxt_36, kxt_37, kxt_38, kxt_39, kisi_0, kisi_1, kisi_2, kisi_3, kisi_4, kisi_5, kisi_6, kisi_7, kisi_8, kisi_9, kisi_10, kisi_11, kisi_12, kisi_13, kisi_14, kisi_15, kisi_16, kisi_17, kisi_18, kisi_19, kisi_20, kisi_21, kisi_22, kisi_23, kisi_24, kisi_25, kisi_26, kisi_27, kisi_28, kisi_29, kisi_30, kisi_31, kisi_32, kisi_33, kisi_34, kisi_35, kisi_36, kisi_37, kisi_38, kisi_39, kisi_40, kisi_41, kisi_42, kisi_43, kisi_44, kisi_45, kisi_46, kisi_47, kisi_48, kisi_49, kisi_50, kisi_51, kisi_52, kisi_53, kisi_54, kisi_55, kisi_56, kisi_57, kisi_58, kisi_59, kisi_60, kisi_61, kisi_62, kisi_63, kisi_64, kisi_65, kisi_66, kisi_67, kisi_68, kisi_69, kisi_70, kisi_71, kisi_72, kisi_73, kisi_74, kisi_75, kisi_76, kisi_77, kisi_78, kisi_79, kisi_80, kisi_81, kisi_82, kisi_83, kisi_84, kisi_85, kisi_86, kisi_87, kisi_88, kisi_89, kisi_90, kisi_91, kisi_92, kisi_93, kisi_94, kisi_95, kisi_96, kisi_97, kisi_98, kisi_99, kisi_100, kisi_101, kisi_102, kisi_103, kisi_104, kisi_105, kisi_106, kisi_107, kisi_108, kisi_109, kisi_110, kisi_111, kisi_112, kisi_113, kisi_114, kisi_115, kisi_116, kisi_117, kisi_118, kisi_119, kisi_120, kisi_121, kisi_122, kisi_123, kisi_124, kisi_125, kisi_126, kisi_127, kisi_128, kisi_129, kisi_130, kisi_131, kisi_132, kisi_133, kisi_134, kisi_135, kisi_136, kisi_137, kisi_138, kisi_139, kisi_140, kisi_141, kisi_142, kisi_143, kisi_144, kisi_145, kisi_146, kisi_147, kisi_148, kisi_149, kisi_150, kisi_151, kisi_152, kisi_153, dflD_law_same, kwdD_law_same, T_law_same, dflD_law_field, kwdD_law_field, T_law_field, dflD_law_numbered_errors, kwdD_law_numbered_errors, T_law_numbered_errors, dflD_law_placed_errors, kwdD_law_placed_errors, T_law_placed_errors, dflD_law_named_errors, kwdD_law_named_errors, T_law_named_errors, dflD_law_all_errors, kwdD_law_all_errors, U0_law_numbered_errors, U1_law_placed_errors, U2_law_named_errors, T_law_all_errors, dflD_law_all_by_name, kwdD_law_all_by_name, T_law_all_by_name, dflD_law_pull, kwdD_law_pull, T_law_pull, dflD_law_of, kwdD_law_of, U3_law_pull, T_law_of, dflD_law_bag, kwdD_law_bag, T_law_bag, dflD_law, kwdD_law, U4_law_same, U5_law_field, U6_law_all_errors, U7_law_all_by_name, U8_law_of, U9_law_bag, T_law, kExs, kECls, kExs, kECls])
section
variable {μ : Mu} {Q : D → Mu → Prop} {E : PX} {b : Cell}
theorem vm_NothingLeft {env : EG.Env} {g : EG.Env → EM (List D)} : Wp (fMkV X_NothingLeft g env) μ Q E = Wp (g env) μ (fun ds μ1 => ds.isEmpty = true ∧ Q (.err 2 [("code", .str "NothingLeft")]) μ1) E := xv_mk0
theorem vx_NothingLeft {T : Isi} {cs : List Tag} {fs : List (Str × D)} : isxD T kXt cs (.err 2 fs) = isiAny T (.ex 2) cs := xv_isxD (by decide)
theorem vm_HoldingRule {env : EG.Env} {g : EG.Env → EM (List D)} : Wp (fMkV X_HoldingRule g env) μ Q E = Wp (g env) μ (fun ds μ1 => ds.isEmpty = true ∧ Q (.err 5 [("code", .str "HoldingRule")]) μ1) E := xv_mk0
theorem vx_HoldingRule {T : Isi} {cs : List Tag} {fs : List (Str × D)} : isxD T kXt cs (.err 5 fs) = isiAny T (.ex 5) cs := xv_isxD (by decide)
theorem vm_LostWorth {env : EG.Env} {g : EG.Env → EM (List D)} : Wp (fMkV X_LostWorth g env) μ Q E = Wp (g env) μ (fun ds μ1 => ds.isEmpty = true ∧ Q (.err 6 [("code", .str "LostWorth")]) μ1) E := xv_mk0
theorem vx_LostWorth {T : Isi} {cs : List Tag} {fs : List (Str × D)} : isxD T kXt cs (.err 6 fs) = isiAny T (.ex 6) cs := xv_isxD (by decide)
theorem vm_InvalidPiece {env : EG.Env} {g : EG.Env → EM (List D)} : Wp (fMkV X_InvalidPiece g env) μ Q E = Wp (g env) μ (fun ds μ1 => ds.isEmpty = true ∧ Q (.err 7 [("code", .str "InvalidPiece")]) μ1) E := xv_mk0
theorem vx_InvalidPiece {T : Isi} {cs : List Tag} {fs : List (Str × D)} : isxD T kXt cs (.err 7 fs) = isiAny T (.ex 7) cs := xv_isxD (by decide)
theorem vm_TooMany {env : EG.Env} {g : EG.Env → EM (List D)} : Wp (fMkV X_TooMany g env) μ Q E = Wp (g env) μ (fun ds μ1 => Op (ex1 ds) fun d => Q (.err 8 [("most", d), ("code", .str "TooMany")]) μ1) E := xv_mk1
theorem vx_TooMany {T : Isi} {cs : List Tag} {fs : List (Str × D)} : isxD T kXt cs (.err 8 fs) = isiAny T (.ex 8) cs := xv_isxD (by decide)
theorem vm_Full {env : EG.Env} {g : EG.Env → EM (List D)} : Wp (fMkV X_Full g env) μ Q E = Wp (g env) μ (fun ds μ1 => Op (ex1 ds) fun d => Q (.err 9 [("limit", d), ("code", .str "Full")]) μ1) E := xv_mk1
theorem vx_Full {T : Isi} {cs : List Tag} {fs : List (Str × D)} : isxD T kXt cs (.err 9 fs) = isiAny T (.ex 9) cs := xv_isxD (by decide)
theorem vm_InvalidPage {env : EG.Env} {g : EG.Env → EM (List D)} : Wp (fMkV X_InvalidPage g env) μ Q E = Wp (g env) μ (fun ds μ1 => Op (ex1 ds) fun d => Q (.err 10 [("line", d), ("code", .str "InvalidPage")]) μ1) E := xv_mk1
theorem vx_InvalidPage {T : Isi} {cs : List Tag} {fs : List (Str × D)} : isxD T kXt cs (.err 10 fs) = isiAny T (.ex 10) cs := xv_isxD (by decide)
theorem vm_InvalidRule {env : EG.Env} {g : EG.Env → EM (List D)} : Wp (fMkV X_InvalidRule g env) μ Q E = Wp (g env) μ (fun ds μ1 => Op (ex1 ds) fun d => Q (.err 11 [("what", d), ("code", .str "InvalidRule")]) μ1) E := xv_mk1
theorem vx_InvalidRule {T : Isi} {cs : List Tag} {fs : List (Str × D)} : isxD T kXt cs (.err 11 fs) = isiAny T (.ex 11) cs := xv_isxD (by decide)
theorem vm_InvalidNumber {env : EG.Env} {g : EG.Env → EM (List D)} : Wp (fMkV X_InvalidNumber g env) μ Q E = Wp (g env) μ (fun ds μ1 => Op (ex1 ds) fun d => Q (.err 0 [("given", d), ("code", .str "InvalidNumber")]) μ1) E := xv_mk1
theorem vx_InvalidNumber {T : Isi} {cs : List Tag} {fs : List (Str × D)} : isxD T kXt cs (.err 0 fs) = isiAny T (.ex 0) cs := xv_isxD (by decide)
theorem vm_UnknownTick {env : EG.Env} {g : EG.Env → EM (List D)} : Wp (fMkV X_UnknownTick g env) μ Q E = Wp (g env) μ (fun ds μ1 => Op (ex1 ds) fun d => Q (.err 12 [("given", d), ("code", .str "UnknownTick")]) μ1) E := xv_mk1
theorem vx_UnknownTick {T : Isi} {cs : List Tag} {fs : List (Str × D)} : isxD T kXt cs (.err 12 fs) = isiAny T (.ex 12) cs := xv_isxD (by decide)
theorem vm_UnknownMeter {env : EG.Env} {g : EG.Env → EM (List D)} : Wp (fMkV X_UnknownMeter g env) μ Q E = Wp (g env) μ (fun ds μ1 => Op (ex1 ds) fun d => Q (.err 1 [("given", d), ("code", .str "UnknownMeter")]) μ1) E := xv_mk1
theorem vx_UnknownMeter {T : Isi} {cs : List Tag} {fs : List (Str × D)} : isxD T kXt cs (.err 1 fs) = isiAny T (.ex 1) cs := xv_isxD (by decide)
theorem vm_InvalidLimit {env : EG.Env} {g : EG.Env → EM (List D)} : Wp (fMkV X_InvalidLimit g env) μ Q E = Wp (g env) μ (fun ds μ1 => Op (ex1 ds) fun d => Q (.err 13 [("given", d), ("code", .str "InvalidLimit")]) μ1) E := xv_mk1
theorem vx_InvalidLimit {T : Isi} {cs : List Tag} {fs : List (Str × D)} : isxD T kXt cs (.err 13 fs) = isiAny T (.ex 13) cs := xv_isxD (by decide)
theorem vm_InvalidName {env : EG.Env} {g : EG.Env → EM (List D)} : Wp (fMkV X_InvalidName g env) μ Q E = Wp (g env) μ (fun ds μ1 => Op (ex1 ds) fun d => Q (.err 14 [("given", d), ("code", .str "InvalidName")]) μ1) E := xv_mk1
theorem vx_InvalidName {T : Isi} {cs : List Tag} {fs : List (Str × D)} : isxD T kXt cs (.err 14 fs) = isiAny T (.ex 14) cs := xv_isxD (by decide)
theorem vm_InvalidText {env : EG.Env} {g : EG.Env → EM (List D)} : Wp (fMkV X_InvalidText g env) μ Q E = Wp (g env) μ (fun ds μ1 => Op (ex1 ds) fun d => Q (.err 15 [("given", d), ("code", .str "InvalidText")]) μ1) E := xv_mk1
theorem vx_InvalidText {T : Isi} {cs : List Tag} {fs : List (Str × D)} : isxD T kXt cs (.err 15 fs) = isiAny T (.ex 15) cs := xv_isxD (by decide)
theorem vm_InvalidUnknown {env : EG.Env} {g : EG.Env → EM (List D)} : Wp (fMkV X_InvalidUnknown g env) μ Q E = Wp (g env) μ (fun ds μ1 => Op (ex1 ds) fun d => Q (.err 16 [("given", d), ("code", .str "InvalidUnknown")]) μ1) E := xv_mk1
theorem vx_InvalidUnknown {T : Isi} {cs : List Tag} {fs : List (Str × D)} : isxD T kXt cs (.err 16 fs) = isiAny T (.ex 16) cs := xv_isxD (by decide)
theorem vm_InvalidRow {env : EG.Env} {g : EG.Env → EM (List D)} : Wp (fMkV X_InvalidRow g env) μ Q E = Wp (g env) μ (fun ds μ1 => Op (ex1 ds) fun d => Q (.err 17 [("at", d), ("code", .str "InvalidRow")]) μ1) E := xv_mk1
theorem vx_InvalidRow {T : Isi} {cs : List Tag} {fs : List (Str × D)} : isxD T kXt cs (.err 17 fs) = isiAny T (.ex 17) cs := xv_isxD (by decide)
theorem vm_InvalidCommand {env : EG.Env} {g : EG.Env → EM (List D)} : Wp (fMkV X_InvalidCommand g env) μ Q E = Wp (g env) μ (fun ds μ1 => Op (ex1 ds) fun d => Q (.err 18 [("at", d), ("code", .str "InvalidCommand")]) μ1) E := xv_mk1
theorem vx_InvalidCommand {T : Isi} {cs : List Tag} {fs : List (Str × D)} : isxD T kXt cs (.err 18 fs) = isiAny T (.ex 18) cs := xv_isxD (by decide)
theorem vm_InvalidReadings {env : EG.Env} {g : EG.Env → EM (List D)} : Wp (fMkV X_InvalidReadings g env) μ Q E = Wp (g env) μ (fun ds μ1 => Op (ex1 ds) fun d => Q (.err 19 [("at", d), ("code", .str "InvalidReadings")]) μ1) E := xv_mk1
theorem vx_InvalidReadings {T : Isi} {cs : List Tag} {fs : List (Str × D)} : isxD T kXt cs (.err 19 fs) = isiAny T (.ex 19) cs := xv_isxD (by decide)
theorem vm_InvalidMeter {env : EG.Env} {g : EG.Env → EM (List D)} : Wp (fMkV X_InvalidMeter g env) μ Q E = Wp (g env) μ (fun ds μ1 => Op (ex1 ds) fun d => Q (.err 20 [("at", d), ("code", .str "InvalidMeter")]) μ1) E := xv_mk1
theorem vx_InvalidMeter {T : Isi} {cs : List Tag} {fs : List (Str × D)} : isxD T kXt cs (.err 20 fs) = isiAny T (.ex 20) cs := xv_isxD (by decide)
theorem vm_UnknownName {env : EG.Env} {g : EG.Env → EM (List D)} : Wp (fMkV X_UnknownName g env) μ Q E = Wp (g env) μ (fun ds μ1 => Op (ex1 ds) fun d => Q (.err 21 [("name", d), ("code", .str "UnknownName")]) μ1) E := xv_mk1
theorem vx_UnknownName {T : Isi} {cs : List Tag} {fs : List (Str × D)} : isxD T kXt cs (.err 21 fs) = isiAny T (.ex 21) cs := xv_isxD (by decide)
theorem vm_WrongKind {env : EG.Env} {g : EG.Env → EM (List D)} : Wp (fMkV X_WrongKind g env) μ Q E = Wp (g env) μ (fun ds μ1 => Op (ex1 ds) fun d => Q (.err 22 [("name", d), ("code", .str "WrongKind")]) μ1) E := xv_mk1
theorem vx_WrongKind {T : Isi} {cs : List Tag} {fs : List (Str × D)} : isxD T kXt cs (.err 22 fs) = isiAny T (.ex 22) cs := xv_isxD (by decide)
theorem vm_DuplicateName {env : EG.Env} {g : EG.Env → EM (List D)} : Wp (fMkV X_DuplicateName g env) μ Q E = Wp (g env) μ (fun ds μ1 => Op (ex1 ds) fun d => Q (.err 23 [("name", d), ("code", .str "DuplicateName")]) μ1) E := xv_mk1
theorem vx_DuplicateName {T : Isi} {cs : List Tag} {fs : List (Str × D)} : isxD T kXt cs (.err 23 fs) = isiAny T (.ex 23) cs := xv_isxD (by decide)
local macro_rules
  | `(tactic| sizeOf_list_dec) => `(tactic| simp only [↓br_true, ↓br_false, ↓op_some, ↓wp_bind, ↓wp_pure, ↓wp_fail, ↓wp_opt, ↓wp_guard, ↓wp_v, ↓wp_vB, ↓wp_c, ↓wp_op2, ↓wp_op2L, ↓wp_t, ↓wp_tru, ↓wp_chain, ↓wp_andT, ↓wp_orT, ↓wp_notT, ↓wp_andV, ↓wp_orV, ↓wp_notV, ↓wp_if, ↓wp_nil, ↓wp_cons, ↓wp_tup, ↓wp_lst, ↓wp_D, ↓wp_cb, ↓wp_call, ↓wp_isi, ↓wp_neg, ↓wp_sl, ↓wp_noP, ↓wp_P, ↓wp_yes, ↓wp_items, ↓wp_signs, ↓wp_comp, ↓ws_seq, ↓thn_nx, ↓thn_rt, ↓thn_br, ↓thn_ct, ↓thn_exc, ↓ws_skip, ↓ws_break, ↓ws_cont, ↓ws_retN, ↓ws_set, ↓ws_own, ↓ws_ret, ↓ws_drop, ↓ws_if, ↓ws_asg, ↓ws_par3, ↓ws_par3o, ↓ws_par, ↓ws_setC, ↓wp_newc, ↓ws_app, ↓ws_ext, ↓ws_setI, ↓ws_frz, ↓ws_for, ↓wl_nil, ↓wl_cons, ↓wf_run, ↓retS_nx, ↓retS_rt, ↓lpS_nx, ↓lpS_ct, ↓lpS_br, ↓lpS_rt, ↓turn_nx, ↓turn_ct, ↓turn_br, ↓turn_rt, ↓wp_addI, ↓wp_addS, ↓wp_subI, ↓wp_mulI, ↓wp_divI, ↓wp_modI, ↓wp_powI, ↓wp_cmpI, ↓wp_eq, ↓wp_ne, ↓wp_negI, ↓wp_seqE, ↓wp_lstE, ↓wp_ixL, ↓wp_ixT, ↓wp_ixC, ↓wp_ixS, ↓wp_lenS, ↓wp_lenL, ↓wp_lenT, ↓wp_lenC, ↓wp_absI, ↓wp_intI, ↓wp_intB, ↓wp_intS, ↓wp_strI, ↓wp_boolI, ↓wp_boolB, ↓wp_all, ↓wp_any, ↓wp_sum, ↓wp_max2, ↓wp_min2, ↓wp_minT, ↓wp_list, ↓wp_tuple, ↓wp_sorted, ↓wp_slS, ↓wp_slT, ↓wp_slLD, ↓wp_slC, ↓wp_slL, ↓wp_range1, ↓wp_range2, ↓wp_enum, ↓wp_enumT, ↓wp_zip, ↓wp_zipTT, ↓wp_zipTL, ↓wp_zipLT, ↓wp_cat, ↓wp_rep, ↓wp_inSg, ↓wp_notInSg, ↓wp_inL, ↓wp_inT, ↓wp_notIn, ↓wp_isN, ↓wp_notN, ↓wp_isB, ↓wp_notB, tt1, tt2, tt3, tt4, tt5, tt6, tu1, tu2, tu3, tu4, tu5, tu6, tu7, tu8, tu9, tu10, tu11, tu12, tu13, tu14, tu15, tu16, tu17, tu18, tu19, tu20, tu21, tu22, tu23, tu24, asB_bl, truD_non, truD_bl, truD_int, truD_str, truD_lst, truD_tup, asI_int, asS_str, items_lst, items_tup, items_str, valS_v, valB_v, valB_own, seqD_lst, seqD_tup, seqD_cell0, lstD_lst, lstD_cell0, cellL_0, own_lst, nonB_non, nonB_bl, nonB_int, nonB_str, nonB_lst, nonB_tup, nonB_cell, nonB_obj, bools_nil, bools_cons, ints_nil, ints_cons, eqD_ii, eqD_bb, eqD_ss, eqD_nn, eqD_ni, eqD_in, eqD_nb, eqD_bn, eqD_ns, eqD_sn, eqD_is, eqD_si, eqD_bs, eqD_sb, tag_non, tag_bl, tag_int, tag_str, tag_lst, tag_tup, tag_obj, bindP_nm, bindP_tp, bindP_tl, bindPs_nil, bindPs_cons, ↓wp_get, ↓wp_meth, ↓wp_prop, ↓ws_setF, ↓wp_mk, ↓wp_own, ↓wp_kd, ↓wp_methK, ↓wp_ownNe, ↓wp_own1, ↓wp_ownT, ↓wp_fstr, ↓wp_fFn, ↓wp_fFc, ↓wp_fmtS, ↓wp_fmtI, kok_len, kok_repr, kok_bool, eqD_tt, eqD_ll, plB_non, plB_bl, plB_int, plB_str, plB_lst, plB_tup, eqBs_nn, eqBs_cc, eqBs_nc, eqBs_cn, eqB_ii, eqB_bb, eqB_ss, eqB_nn, eqB_ll, eqB_tt, eqB_ni, eqB_in, eqB_nt, eqB_tn, eqB_it, eqB_ti, ↓wp_addT, ↓wp_addL, ↓wp_mulL, objD_obj, objD_last, cellO_last, set_last, isO_obj, isO_last, putD_nil, putD_cons, lkp_nil, lkp_cons, bel_plain, bels_plain, belF_nil, belF_cons, ↓wp_compN, ↓wp_compC, rng_0, rng_1, rng_2, rng_3, enL_nil, enL_cons, zpL_nil, zpL_nilR, zpL_cons, ↓wp_maxL, ↓wp_minL, maxL_2, maxL_1, minL_2, minL_1, bel_non, bel_bl, bel_int, bel_str, bel_lst, bel_tup, bel_obj, bels_nil, bels_cons, kst_app0, ctl_hi, ctl_lo, ctl_no, kst_inj, ↓wp_rgI1, ↓wp_rgI2, ↓wp_rg1, ↓wp_rg2, ↓wp_callO, kst_beq, ↓ws_appC, ↓wp_compZ, ↓wp_zipM, ↓wp_compLN, ↓wp_compLC, seqD_mL, seqD_mT, seqD_mC, kst_kL, kst_kT, keep_cell, tag_cellL, ↓wp_u, ↓wp_lone, ↓wp_star, dataL_lst, dataL_tup, ↓wp_cu, ↓wp_mu, ↓wp_mku, ↓wp_lmu, isCls_eq, ↓wu_F, ↓wu_S, ↓ws_forM, ↓wfm_lst, ↓wfm_tup, ↓xq_rl0, ↓xq_rl1, ↓xq_raise, ↓xq_exD0, ↓xq_exD1, ↓xq_exS, ↓xq_retS, ↓xq_thn, ↓xq_try, ↓xq_tk_nx, ↓xq_tk_rt, ↓xq_tk_br, ↓xq_tk_ct, ↓xq_tk_exc, ↓xq_ek_nx, ↓xq_ek_rt, ↓xq_xf, ↓xq_xfD, ↓xq_callQ, seqD_cell2, lstD_cell2, cellL_2, seqD_cell3, lstD_cell3, cellL_3, seqD_cell4, lstD_cell4, cellL_4, seqD_cell5, lstD_cell5, cellL_5, ↓xq_inS_nil, ↓xq_inS_cons, ↓xq_cloS, ↓xq_capM, ↓xq_act, ↓xq_lam1, ↓xq_lam2, ↓xq_lam3, ↓xq_lam4, ↓xq_lf, ↓xq_lamF, ↓xq_callZ, ↓xq_lendF, ↓xq_caps_nil, ↓xq_caps, ↓xq_envL_nil, ↓xq_envL, ↓xq_slotL, ↓xq_par2o, ↓xq_inPL, ↓xq_notInPL, ↓xq_clearC, ↓xq_inT, ↓xq_newT, ↓xq_putT, ↓xq_ins, ↓xq_mulT, ↓xq_rev, ↓xq_zip3, kst_rep1, kst_rep2, kst_rep3, kst_rep4, kst_seqL, kst_seqT, zpL_3nil, zpL_3cons, ↓xq_ownOp, ↓xq_ownIn, ↓xq_comp2, asStr_str, asStr_int, strsK_nil, strsK_cons, ↓xq_fM1, ↓xq_join, ↓xq_split, ↓xq_fW, ↓xq_fW2, ↓xq_wIn, ↓xq_wIx, ↓xq_wGet, ↓xq_tryP, ↓xq_c2n, ↓xq_c2c, ↓xq_slN, ↓xq_tp_nx, ↓xq_tp_rt, ↓xq_tp_br, ↓xq_tp_ct, ↓xq_keyI, ↓xq_keyS, ↓xq_inK, ↓xq_ixK, ↓xq_oKO, ↓xq_newK, ↓xq_putKV, ↓xq_putK, ↓xq_three, ↓xq_setV, ↓xq_put2n, ↓xq_parKK, ↓xq_par2f, ↓xq_dcomp, ↓xq_wwS_nx, ↓xq_wwS_ct, ↓xq_wwS_br, ↓xq_wwS_rt, ↓xq_wwS_exc, ↓xq_compM, ↓xq_orN, ↓xq_orN_non, EG.runs, EG.run, uOf, ev, evs, evo, evr, evf, mkE, mkL, failL, bopF, copF, bltF, lbltF, env0, wipeE, isiAny, isi1, frzS, Cell.toD, atI_nn, setAt_nn, wp_inSg, Gam.put, clsTab, arrQ, arrP, Pick.of, kwM, rightB, E00, List.map_cons, List.map_nil, List.length_cons, List.length_nil, List.append_nil, List.nil_append, List.cons_append, List.getElem?_cons_zero, List.getElem?_cons_succ, List.getElem?_nil, List.set_cons_zero, List.set_cons_succ, List.filter_cons, List.filter_nil, List.contains_nil, List.elem_nil, Int.reduceNeg, Int.reducePow, nA10, nA2, le_big, Nat.reducePow, Nat.zero_add, Option.map_some, Option.bind_some, Int.reduceLE, Int.reduceToNat, Int.reduceLT, Nat.reduceLT, Nat.reduceAdd, Nat.reduceSub, true_and, and_true, decide_true, decide_false, List.length_append, List.length_map, Nat.reduceLeDiff, Nat.reduceEqDiff, Bool.not_true, Bool.not_false, decide_eq_true_eq, reduceCtorEq, Option.some.injEq, id_eq, List.all_cons, List.all_nil, List.any_cons, List.any_nil, Bool.and_true, Bool.true_and, Bool.and_false, Bool.false_and, Bool.or_true, Bool.or_false, Bool.true_or, Bool.false_or, Int.reduceAdd, Int.reduceSub, beq_self_eq_true, Option.isNone_none, Option.isNone_some, if_true, if_false, ite_true, ite_false, Nat.succ_eq_add_one, Int.natCast_add, Int.natCast_one, Int.cast_ofNat_Int, List.contains_cons, String.reduceEq, List.take_succ_cons, List.take_zero, List.drop_succ_cons, List.drop_zero, List.take_nil, List.drop_nil, List.replicate, Int.natCast_zero, Int.zero_add, kG0, kConsts, kFrees, kCls, kxt_0, kxt_1, kxt_2, kxt_3, kxt_4, kxt_5, kxt_6, kxt_7, kxt_8, kxt_9, kxt_10, kxt_11, kxt_12, kxt_13, kxt_14, kxt_15, kxt_16, kxt_17, kxt_18, kxt_19, kxt_20, kxt_21, kxt_22, kxt_23, kxt_24, kxt_25, kxt_26, kxt_27, kxt_28, kxt_29, kxt_30, kxt_31, kxt_32, kxt_33, kxt_34, kxt_35, kxt_36, kxt_37, kxt_38, kxt_39, kisi_0, kisi_1, kisi_2, kisi_3, kisi_4, kisi_5, kisi_6, kisi_7, kisi_8, kisi_9, kisi_10, kisi_11, kisi_12, kisi_13, kisi_14, kisi_15, kisi_16, kisi_17, kisi_18, kisi_19, kisi_20, kisi_21, kisi_22, kisi_23, kisi_24, kisi_25, kisi_26, kisi_27, kisi_28, kisi_29, kisi_30, kisi_31, kisi_32, kisi_33, kisi_34, kisi_35, kisi_36, kisi_37, kisi_38, kisi_39, kisi_40, kisi_41, kisi_42, kisi_43, kisi_44, kisi_45, kisi_46, kisi_47, kisi_48, kisi_49, kisi_50, kisi_51, kisi_52, kisi_53, kisi_54, kisi_55, kisi_56, kisi_57, kisi_58, kisi_59, kisi_60, kisi_61, kisi_62, kisi_63, kisi_64, kisi_65, kisi_66, kisi_67, kisi_68, kisi_69, kisi_70, kisi_71, kisi_72, kisi_73, kisi_74, kisi_75, kisi_76, kisi_77, kisi_78, kisi_79, kisi_80, kisi_81, kisi_82, kisi_83, kisi_84, kisi_85, kisi_86, kisi_87, kisi_88, kisi_89, kisi_90, kisi_91, kisi_92, kisi_93, kisi_94, kisi_95, kisi_96, kisi_97, kisi_98, kisi_99, kisi_100, kisi_101, kisi_102, kisi_103, kisi_104, kisi_105, kisi_106, kisi_107, kisi_108, kisi_109, kisi_110, kisi_111, kisi_112, kisi_113, kisi_114, kisi_115, kisi_116, kisi_117, kisi_118, kisi_119, kisi_120, kisi_121, kisi_122, kisi_123, kisi_124, kisi_125, kisi_126, kisi_127, kisi_128, kisi_129, kisi_130, kisi_131, kisi_132, kisi_133, kisi_134, kisi_135, kisi_136, kisi_137, kisi_138, kisi_139, kisi_140, kisi_141, kisi_142, kisi_143, kisi_144, kisi_145, kisi_146, kisi_147, kisi_148, kisi_149, kisi_150, kisi_151, kisi_152, kisi_153, dflD_law_same, kwdD_law_same, T_law_same, dflD_law_field, kwdD_law_field, T_law_field, dflD_law_numbered_errors, kwdD_law_numbered_errors, T_law_numbered_errors, dflD_law_placed_errors, kwdD_law_placed_errors, T_law_placed_errors, dflD_law_named_errors, kwdD_law_named_errors, T_law_named_errors, dflD_law_all_errors, kwdD_law_all_errors, U0_law_numbered_errors, U1_law_placed_errors, U2_law_named_errors, T_law_all_errors, dflD_law_all_by_name, kwdD_law_all_by_name, T_law_all_by_name, dflD_law_pull, kwdD_law_pull, T_law_pull, dflD_law_of, kwdD_law_of, U3_law_pull, T_law_of, dflD_law_bag, kwdD_law_bag, T_law_bag, dflD_law, kwdD_law, U4_law_same, U5_law_field, U6_law_all_errors, U7_law_all_by_name, U8_law_of, U9_law_bag, T_law, kExs, kECls, ↓xv_isX, xv_isi1, xv_ex1, kExs, kECls, ↓vm_NothingLeft, ↓vm_HoldingRule, ↓vm_LostWorth, ↓vm_InvalidPiece, ↓vm_TooMany, ↓vm_Full, ↓vm_InvalidPage, ↓vm_InvalidRule, ↓vm_InvalidNumber, ↓vm_UnknownTick, ↓vm_UnknownMeter, ↓vm_InvalidLimit, ↓vm_InvalidName, ↓vm_InvalidText, ↓vm_InvalidUnknown, ↓vm_InvalidRow, ↓vm_InvalidCommand, ↓vm_InvalidReadings, ↓vm_InvalidMeter, ↓vm_UnknownName, ↓vm_WrongKind, ↓vm_DuplicateName, vx_NothingLeft, vx_HoldingRule, vx_LostWorth, vx_InvalidPiece, vx_TooMany, vx_Full, vx_InvalidPage, vx_InvalidRule, vx_InvalidNumber, vx_UnknownTick, vx_UnknownMeter, vx_InvalidLimit, vx_InvalidName, vx_InvalidText, vx_InvalidUnknown, vx_InvalidRow, vx_InvalidCommand, vx_InvalidReadings, vx_InvalidMeter, vx_UnknownName, vx_WrongKind, vx_DuplicateName])
local macro_rules
  | `(tactic| exists $es,*) => `(tactic| simp only [↓br_true, ↓br_false, ↓op_some, ↓wp_bind, ↓wp_pure, ↓wp_fail, ↓wp_opt, ↓wp_guard, ↓wp_v, ↓wp_vB, ↓wp_c, ↓wp_op2, ↓wp_op2L, ↓wp_t, ↓wp_tru, ↓wp_chain, ↓wp_andT, ↓wp_orT, ↓wp_notT, ↓wp_andV, ↓wp_orV, ↓wp_notV, ↓wp_if, ↓wp_nil, ↓wp_cons, ↓wp_tup, ↓wp_lst, ↓wp_D, ↓wp_cb, ↓wp_call, ↓wp_isi, ↓wp_neg, ↓wp_sl, ↓wp_noP, ↓wp_P, ↓wp_yes, ↓wp_items, ↓wp_signs, ↓wp_comp, ↓ws_seq, ↓thn_nx, ↓thn_rt, ↓thn_br, ↓thn_ct, ↓thn_exc, ↓ws_skip, ↓ws_break, ↓ws_cont, ↓ws_retN, ↓ws_set, ↓ws_own, ↓ws_ret, ↓ws_drop, ↓ws_if, ↓ws_asg, ↓ws_par3, ↓ws_par3o, ↓ws_par, ↓ws_setC, ↓wp_newc, ↓ws_app, ↓ws_ext, ↓ws_setI, ↓ws_frz, ↓ws_for, ↓wl_nil, ↓wl_cons, ↓wf_run, ↓retS_nx, ↓retS_rt, ↓lpS_nx, ↓lpS_ct, ↓lpS_br, ↓lpS_rt, ↓turn_nx, ↓turn_ct, ↓turn_br, ↓turn_rt, ↓wp_addI, ↓wp_addS, ↓wp_subI, ↓wp_mulI, ↓wp_divI, ↓wp_modI, ↓wp_powI, ↓wp_cmpI, ↓wp_eq, ↓wp_ne, ↓wp_negI, ↓wp_seqE, ↓wp_lstE, ↓wp_ixL, ↓wp_ixT, ↓wp_ixC, ↓wp_ixS, ↓wp_lenS, ↓wp_lenL, ↓wp_lenT, ↓wp_lenC, ↓wp_absI, ↓wp_intI, ↓wp_intB, ↓wp_intS, ↓wp_strI, ↓wp_boolI, ↓wp_boolB, ↓wp_all, ↓wp_any, ↓wp_sum, ↓wp_max2, ↓wp_min2, ↓wp_minT, ↓wp_list, ↓wp_tuple, ↓wp_sorted, ↓wp_slS, ↓wp_slT, ↓wp_slLD, ↓wp_slC, ↓wp_slL, ↓wp_range1, ↓wp_range2, ↓wp_enum, ↓wp_enumT, ↓wp_zip, ↓wp_zipTT, ↓wp_zipTL, ↓wp_zipLT, ↓wp_cat, ↓wp_rep, ↓wp_inSg, ↓wp_notInSg, ↓wp_inL, ↓wp_inT, ↓wp_notIn, ↓wp_isN, ↓wp_notN, ↓wp_isB, ↓wp_notB, tt1, tt2, tt3, tt4, tt5, tt6, tu1, tu2, tu3, tu4, tu5, tu6, tu7, tu8, tu9, tu10, tu11, tu12, tu13, tu14, tu15, tu16, tu17, tu18, tu19, tu20, tu21, tu22, tu23, tu24, asB_bl, truD_non, truD_bl, truD_int, truD_str, truD_lst, truD_tup, asI_int, asS_str, items_lst, items_tup, items_str, valS_v, valB_v, valB_own, seqD_lst, seqD_tup, seqD_cell0, lstD_lst, lstD_cell0, cellL_0, own_lst, nonB_non, nonB_bl, nonB_int, nonB_str, nonB_lst, nonB_tup, nonB_cell, nonB_obj, bools_nil, bools_cons, ints_nil, ints_cons, eqD_ii, eqD_bb, eqD_ss, eqD_nn, eqD_ni, eqD_in, eqD_nb, eqD_bn, eqD_ns, eqD_sn, eqD_is, eqD_si, eqD_bs, eqD_sb, tag_non, tag_bl, tag_int, tag_str, tag_lst, tag_tup, tag_obj, bindP_nm, bindP_tp, bindP_tl, bindPs_nil, bindPs_cons, ↓wp_get, ↓wp_meth, ↓wp_prop, ↓ws_setF, ↓wp_mk, ↓wp_own, ↓wp_kd, ↓wp_methK, ↓wp_ownNe, ↓wp_own1, ↓wp_ownT, ↓wp_fstr, ↓wp_fFn, ↓wp_fFc, ↓wp_fmtS, ↓wp_fmtI, kok_len, kok_repr, kok_bool, eqD_tt, eqD_ll, plB_non, plB_bl, plB_int, plB_str, plB_lst, plB_tup, eqBs_nn, eqBs_cc, eqBs_nc, eqBs_cn, eqB_ii, eqB_bb, eqB_ss, eqB_nn, eqB_ll, eqB_tt, eqB_ni, eqB_in, eqB_nt, eqB_tn, eqB_it, eqB_ti, ↓wp_addT, ↓wp_addL, ↓wp_mulL, objD_obj, objD_last, cellO_last, set_last, isO_obj, isO_last, putD_nil, putD_cons, lkp_nil, lkp_cons, bel_plain, bels_plain, belF_nil, belF_cons, ↓wp_compN, ↓wp_compC, rng_0, rng_1, rng_2, rng_3, enL_nil, enL_cons, zpL_nil, zpL_nilR, zpL_cons, ↓wp_maxL, ↓wp_minL, maxL_2, maxL_1, minL_2, minL_1, bel_non, bel_bl, bel_int, bel_str, bel_lst, bel_tup, bel_obj, bels_nil, bels_cons, kst_app0, ctl_hi, ctl_lo, ctl_no, kst_inj, ↓wp_rgI1, ↓wp_rgI2, ↓wp_rg1, ↓wp_rg2, ↓wp_callO, kst_beq, ↓ws_appC, ↓wp_compZ, ↓wp_zipM, ↓wp_compLN, ↓wp_compLC, seqD_mL, seqD_mT, seqD_mC, kst_kL, kst_kT, keep_cell, tag_cellL, ↓wp_u, ↓wp_lone, ↓wp_star, dataL_lst, dataL_tup, ↓wp_cu, ↓wp_mu, ↓wp_mku, ↓wp_lmu, isCls_eq, ↓wu_F, ↓wu_S, ↓ws_forM, ↓wfm_lst, ↓wfm_tup, ↓xq_rl0, ↓xq_rl1, ↓xq_raise, ↓xq_exD0, ↓xq_exD1, ↓xq_exS, ↓xq_retS, ↓xq_thn, ↓xq_try, ↓xq_tk_nx, ↓xq_tk_rt, ↓xq_tk_br, ↓xq_tk_ct, ↓xq_tk_exc, ↓xq_ek_nx, ↓xq_ek_rt, ↓xq_xf, ↓xq_xfD, ↓xq_callQ, seqD_cell2, lstD_cell2, cellL_2, seqD_cell3, lstD_cell3, cellL_3, seqD_cell4, lstD_cell4, cellL_4, seqD_cell5, lstD_cell5, cellL_5, ↓xq_inS_nil, ↓xq_inS_cons, ↓xq_cloS, ↓xq_capM, ↓xq_act, ↓xq_lam1, ↓xq_lam2, ↓xq_lam3, ↓xq_lam4, ↓xq_lf, ↓xq_lamF, ↓xq_callZ, ↓xq_lendF, ↓xq_caps_nil, ↓xq_caps, ↓xq_envL_nil, ↓xq_envL, ↓xq_slotL, ↓xq_par2o, ↓xq_inPL, ↓xq_notInPL, ↓xq_clearC, ↓xq_inT, ↓xq_newT, ↓xq_putT, ↓xq_ins, ↓xq_mulT, ↓xq_rev, ↓xq_zip3, kst_rep1, kst_rep2, kst_rep3, kst_rep4, kst_seqL, kst_seqT, zpL_3nil, zpL_3cons, ↓xq_ownOp, ↓xq_ownIn, ↓xq_comp2, asStr_str, asStr_int, strsK_nil, strsK_cons, ↓xq_fM1, ↓xq_join, ↓xq_split, ↓xq_fW, ↓xq_fW2, ↓xq_wIn, ↓xq_wIx, ↓xq_wGet, ↓xq_tryP, ↓xq_c2n, ↓xq_c2c, ↓xq_slN, ↓xq_tp_nx, ↓xq_tp_rt, ↓xq_tp_br, ↓xq_tp_ct, ↓xq_keyI, ↓xq_keyS, ↓xq_inK, ↓xq_ixK, ↓xq_oKO, ↓xq_newK, ↓xq_putKV, ↓xq_putK, ↓xq_three, ↓xq_setV, ↓xq_put2n, ↓xq_parKK, ↓xq_par2f, ↓xq_dcomp, ↓xq_wwS_nx, ↓xq_wwS_ct, ↓xq_wwS_br, ↓xq_wwS_rt, ↓xq_wwS_exc, ↓xq_compM, ↓xq_orN, ↓xq_orN_non, EG.runs, EG.run, uOf, ev, evs, evo, evr, evf, mkE, mkL, failL, bopF, copF, bltF, lbltF, env0, wipeE, isiAny, isi1, frzS, Cell.toD, atI_nn, setAt_nn, wp_inSg, Gam.put, clsTab, arrQ, arrP, Pick.of, kwM, rightB, E00, List.map_cons, List.map_nil, List.length_cons, List.length_nil, List.append_nil, List.nil_append, List.cons_append, List.getElem?_cons_zero, List.getElem?_cons_succ, List.getElem?_nil, List.set_cons_zero, List.set_cons_succ, List.filter_cons, List.filter_nil, List.contains_nil, List.elem_nil, Int.reduceNeg, Int.reducePow, nA10, nA2, le_big, Nat.reducePow, Nat.zero_add, Option.map_some, Option.bind_some, Int.reduceLE, Int.reduceToNat, Int.reduceLT, Nat.reduceLT, Nat.reduceAdd, Nat.reduceSub, true_and, and_true, decide_true, decide_false, List.length_append, List.length_map, Nat.reduceLeDiff, Nat.reduceEqDiff, Bool.not_true, Bool.not_false, decide_eq_true_eq, reduceCtorEq, Option.some.injEq, id_eq, List.all_cons, List.all_nil, List.any_cons, List.any_nil, Bool.and_true, Bool.true_and, Bool.and_false, Bool.false_and, Bool.or_true, Bool.or_false, Bool.true_or, Bool.false_or, Int.reduceAdd, Int.reduceSub, beq_self_eq_true, Option.isNone_none, Option.isNone_some, if_true, if_false, ite_true, ite_false, Nat.succ_eq_add_one, Int.natCast_add, Int.natCast_one, Int.cast_ofNat_Int, List.contains_cons, String.reduceEq, List.take_succ_cons, List.take_zero, List.drop_succ_cons, List.drop_zero, List.take_nil, List.drop_nil, List.replicate, Int.natCast_zero, Int.zero_add, kG0, kConsts, kFrees, kCls, kxt_0, kxt_1, kxt_2, kxt_3, kxt_4, kxt_5, kxt_6, kxt_7, kxt_8, kxt_9, kxt_10, kxt_11, kxt_12, kxt_13, kxt_14, kxt_15, kxt_16, kxt_17, kxt_18, kxt_19, kxt_20, kxt_21, kxt_22, kxt_23, kxt_24, kxt_25, kxt_26, kxt_27, kxt_28, kxt_29, kxt_30, kxt_31, kxt_32, kxt_33, kxt_34, kxt_35, kxt_36, kxt_37, kxt_38, kxt_39, kisi_0, kisi_1, kisi_2, kisi_3, kisi_4, kisi_5, kisi_6, kisi_7, kisi_8, kisi_9, kisi_10, kisi_11, kisi_12, kisi_13, kisi_14, kisi_15, kisi_16, kisi_17, kisi_18, kisi_19, kisi_20, kisi_21, kisi_22, kisi_23, kisi_24, kisi_25, kisi_26, kisi_27, kisi_28, kisi_29, kisi_30, kisi_31, kisi_32, kisi_33, kisi_34, kisi_35, kisi_36, kisi_37, kisi_38, kisi_39, kisi_40, kisi_41, kisi_42, kisi_43, kisi_44, kisi_45, kisi_46, kisi_47, kisi_48, kisi_49, kisi_50, kisi_51, kisi_52, kisi_53, kisi_54, kisi_55, kisi_56, kisi_57, kisi_58, kisi_59, kisi_60, kisi_61, kisi_62, kisi_63, kisi_64, kisi_65, kisi_66, kisi_67, kisi_68, kisi_69, kisi_70, kisi_71, kisi_72, kisi_73, kisi_74, kisi_75, kisi_76, kisi_77, kisi_78, kisi_79, kisi_80, kisi_81, kisi_82, kisi_83, kisi_84, kisi_85, kisi_86, kisi_87, kisi_88, kisi_89, kisi_90, kisi_91, kisi_92, kisi_93, kisi_94, kisi_95, kisi_96, kisi_97, kisi_98, kisi_99, kisi_100, kisi_101, kisi_102, kisi_103, kisi_104, kisi_105, kisi_106, kisi_107, kisi_108, kisi_109, kisi_110, kisi_111, kisi_112, kisi_113, kisi_114, kisi_115, kisi_116, kisi_117, kisi_118, kisi_119, kisi_120, kisi_121, kisi_122, kisi_123, kisi_124, kisi_125, kisi_126, kisi_127, kisi_128, kisi_129, kisi_130, kisi_131, kisi_132, kisi_133, kisi_134, kisi_135, kisi_136, kisi_137, kisi_138, kisi_139, kisi_140, kisi_141, kisi_142, kisi_143, kisi_144, kisi_145, kisi_146, kisi_147, kisi_148, kisi_149, kisi_150, kisi_151, kisi_152, kisi_153, dflD_law_same, kwdD_law_same, T_law_same, dflD_law_field, kwdD_law_field, T_law_field, dflD_law_numbered_errors, kwdD_law_numbered_errors, T_law_numbered_errors, dflD_law_placed_errors, kwdD_law_placed_errors, T_law_placed_errors, dflD_law_named_errors, kwdD_law_named_errors, T_law_named_errors, dflD_law_all_errors, kwdD_law_all_errors, U0_law_numbered_errors, U1_law_placed_errors, U2_law_named_errors, T_law_all_errors, dflD_law_all_by_name, kwdD_law_all_by_name, T_law_all_by_name, dflD_law_pull, kwdD_law_pull, T_law_pull, dflD_law_of, kwdD_law_of, U3_law_pull, T_law_of, dflD_law_bag, kwdD_law_bag, T_law_bag, dflD_law, kwdD_law, U4_law_same, U5_law_field, U6_law_all_errors, U7_law_all_by_name, U8_law_of, U9_law_bag, T_law, kExs, kECls, ↓xv_isX, xv_isi1, xv_ex1, kExs, kECls, ↓vm_NothingLeft, ↓vm_HoldingRule, ↓vm_LostWorth, ↓vm_InvalidPiece, ↓vm_TooMany, ↓vm_Full, ↓vm_InvalidPage, ↓vm_InvalidRule, ↓vm_InvalidNumber, ↓vm_UnknownTick, ↓vm_UnknownMeter, ↓vm_InvalidLimit, ↓vm_InvalidName, ↓vm_InvalidText, ↓vm_InvalidUnknown, ↓vm_InvalidRow, ↓vm_InvalidCommand, ↓vm_InvalidReadings, ↓vm_InvalidMeter, ↓vm_UnknownName, ↓vm_WrongKind, ↓vm_DuplicateName, vx_NothingLeft, vx_HoldingRule, vx_LostWorth, vx_InvalidPiece, vx_TooMany, vx_Full, vx_InvalidPage, vx_InvalidRule, vx_InvalidNumber, vx_UnknownTick, vx_UnknownMeter, vx_InvalidLimit, vx_InvalidName, vx_InvalidText, vx_InvalidUnknown, vx_InvalidRow, vx_InvalidCommand, vx_InvalidReadings, vx_InvalidMeter, vx_UnknownName, vx_WrongKind, vx_DuplicateName, $[$es:term],*])
local macro_rules
  | `(tactic| decreasing_with trivial) => `(tactic| simp only [↓br_true, ↓br_false, ↓op_some, ↓wp_bind, ↓wp_pure, ↓wp_fail, ↓wp_opt, ↓wp_guard, ↓wp_v, ↓wp_vB, ↓wp_c, ↓wp_op2, ↓wp_op2L, ↓wp_t, ↓wp_tru, ↓wp_chain, ↓wp_andT, ↓wp_orT, ↓wp_notT, ↓wp_andV, ↓wp_orV, ↓wp_notV, ↓wp_if, ↓wp_nil, ↓wp_cons, ↓wp_tup, ↓wp_lst, ↓wp_D, ↓wp_cb, ↓wp_call, ↓wp_isi, ↓wp_neg, ↓wp_sl, ↓wp_noP, ↓wp_P, ↓wp_yes, ↓wp_items, ↓wp_signs, ↓wp_comp, ↓ws_seq, ↓thn_nx, ↓thn_rt, ↓thn_br, ↓thn_ct, ↓thn_exc, ↓ws_skip, ↓ws_break, ↓ws_cont, ↓ws_retN, ↓ws_set, ↓ws_own, ↓ws_ret, ↓ws_drop, ↓ws_if, ↓ws_asg, ↓ws_par3, ↓ws_par3o, ↓ws_par, ↓ws_setC, ↓wp_newc, ↓ws_app, ↓ws_ext, ↓ws_setI, ↓ws_frz, ↓ws_for, ↓wl_nil, ↓wl_cons, ↓wf_run, ↓retS_nx, ↓retS_rt, ↓lpS_nx, ↓lpS_ct, ↓lpS_br, ↓lpS_rt, ↓turn_nx, ↓turn_ct, ↓turn_br, ↓turn_rt, ↓wp_addI, ↓wp_addS, ↓wp_subI, ↓wp_mulI, ↓wp_divI, ↓wp_modI, ↓wp_powI, ↓wp_cmpI, ↓wp_eq, ↓wp_ne, ↓wp_negI, ↓wp_seqE, ↓wp_lstE, ↓wp_ixL, ↓wp_ixT, ↓wp_ixC, ↓wp_ixS, ↓wp_lenS, ↓wp_lenL, ↓wp_lenT, ↓wp_lenC, ↓wp_absI, ↓wp_intI, ↓wp_intB, ↓wp_intS, ↓wp_strI, ↓wp_boolI, ↓wp_boolB, ↓wp_all, ↓wp_any, ↓wp_sum, ↓wp_max2, ↓wp_min2, ↓wp_minT, ↓wp_list, ↓wp_tuple, ↓wp_sorted, ↓wp_slS, ↓wp_slT, ↓wp_slLD, ↓wp_slC, ↓wp_slL, ↓wp_range1, ↓wp_range2, ↓wp_enum, ↓wp_enumT, ↓wp_zip, ↓wp_zipTT, ↓wp_zipTL, ↓wp_zipLT, ↓wp_cat, ↓wp_rep, ↓wp_inSg, ↓wp_notInSg, ↓wp_inL, ↓wp_inT, ↓wp_notIn, ↓wp_isN, ↓wp_notN, ↓wp_isB, ↓wp_notB, tt1, tt2, tt3, tt4, tt5, tt6, tu1, tu2, tu3, tu4, tu5, tu6, tu7, tu8, tu9, tu10, tu11, tu12, tu13, tu14, tu15, tu16, tu17, tu18, tu19, tu20, tu21, tu22, tu23, tu24, asB_bl, truD_non, truD_bl, truD_int, truD_str, truD_lst, truD_tup, asI_int, asS_str, items_lst, items_tup, items_str, valS_v, valB_v, valB_own, seqD_lst, seqD_tup, seqD_cell0, lstD_lst, lstD_cell0, cellL_0, own_lst, nonB_non, nonB_bl, nonB_int, nonB_str, nonB_lst, nonB_tup, nonB_cell, nonB_obj, bools_nil, bools_cons, ints_nil, ints_cons, eqD_ii, eqD_bb, eqD_ss, eqD_nn, eqD_ni, eqD_in, eqD_nb, eqD_bn, eqD_ns, eqD_sn, eqD_is, eqD_si, eqD_bs, eqD_sb, tag_non, tag_bl, tag_int, tag_str, tag_lst, tag_tup, tag_obj, bindP_nm, bindP_tp, bindP_tl, bindPs_nil, bindPs_cons, ↓wp_get, ↓wp_meth, ↓wp_prop, ↓ws_setF, ↓wp_mk, ↓wp_own, ↓wp_kd, ↓wp_methK, ↓wp_ownNe, ↓wp_own1, ↓wp_ownT, ↓wp_fstr, ↓wp_fFn, ↓wp_fFc, ↓wp_fmtS, ↓wp_fmtI, kok_len, kok_repr, kok_bool, eqD_tt, eqD_ll, plB_non, plB_bl, plB_int, plB_str, plB_lst, plB_tup, eqBs_nn, eqBs_cc, eqBs_nc, eqBs_cn, eqB_ii, eqB_bb, eqB_ss, eqB_nn, eqB_ll, eqB_tt, eqB_ni, eqB_in, eqB_nt, eqB_tn, eqB_it, eqB_ti, ↓wp_addT, ↓wp_addL, ↓wp_mulL, objD_obj, objD_last, cellO_last, set_last, isO_obj, isO_last, putD_nil, putD_cons, lkp_nil, lkp_cons, bel_plain, bels_plain, belF_nil, belF_cons, rng_0, rng_1, rng_2, rng_3, enL_nil, enL_cons, zpL_nil, zpL_nilR, zpL_cons, ↓wp_maxL, ↓wp_minL, maxL_2, maxL_1, minL_2, minL_1, bel_non, bel_bl, bel_int, bel_str, bel_lst, bel_tup, bel_obj, bels_nil, bels_cons, kst_app0, ctl_hi, ctl_lo, ctl_no, kst_inj, ↓wp_rgI1, ↓wp_rgI2, ↓wp_rg1, ↓wp_rg2, ↓wp_callO, kst_beq, ↓ws_appC, ↓wp_compZ, ↓wp_zipM, ↓wp_compLN, ↓wp_compLC, seqD_mL, seqD_mT, seqD_mC, kst_kL, kst_kT, keep_cell, tag_cellL, ↓wp_u, ↓wp_lone, ↓wp_star, dataL_lst, dataL_tup, ↓wp_cu, ↓wp_mu, ↓wp_mku, ↓wp_lmu, isCls_eq, ↓wu_F, ↓wu_S, ↓ws_forM, ↓wfm_lst, ↓wfm_tup, ↓xq_rl0, ↓xq_rl1, ↓xq_raise, ↓xq_exD0, ↓xq_exD1, ↓xq_exS, ↓xq_retS, ↓xq_thn, ↓xq_try, ↓xq_tk_nx, ↓xq_tk_rt, ↓xq_tk_br, ↓xq_tk_ct, ↓xq_tk_exc, ↓xq_ek_nx, ↓xq_ek_rt, ↓xq_xf, ↓xq_xfD, ↓xq_callQ, seqD_cell2, lstD_cell2, cellL_2, seqD_cell3, lstD_cell3, cellL_3, seqD_cell4, lstD_cell4, cellL_4, seqD_cell5, lstD_cell5, cellL_5, ↓xq_inS_nil, ↓xq_inS_cons, ↓xq_cloS, ↓xq_capM, ↓xq_act, ↓xq_lam1, ↓xq_lam2, ↓xq_lam3, ↓xq_lam4, ↓xq_lf, ↓xq_lamF, ↓xq_callZ, ↓xq_lendF, ↓xq_caps_nil, ↓xq_caps, ↓xq_envL_nil, ↓xq_envL, ↓xq_slotL, ↓xq_par2o, ↓xq_inPL, ↓xq_notInPL, ↓xq_clearC, ↓xq_inT, ↓xq_newT, ↓xq_putT, ↓xq_ins, ↓xq_mulT, ↓xq_rev, ↓xq_zip3, kst_rep1, kst_rep2, kst_rep3, kst_rep4, kst_seqL, kst_seqT, zpL_3nil, zpL_3cons, ↓xq_ownOp, ↓xq_ownIn, ↓xq_comp2, asStr_str, asStr_int, strsK_nil, strsK_cons, ↓xq_fM1, ↓xq_join, ↓xq_split, ↓xq_fW, ↓xq_fW2, ↓xq_wIn, ↓xq_wIx, ↓xq_wGet, ↓xq_tryP, ↓xq_c2n, ↓xq_c2c, ↓xq_slN, ↓xq_tp_nx, ↓xq_tp_rt, ↓xq_tp_br, ↓xq_tp_ct, ↓xq_keyI, ↓xq_keyS, ↓xq_inK, ↓xq_ixK, ↓xq_oKO, ↓xq_newK, ↓xq_putKV, ↓xq_putK, ↓xq_three, ↓xq_setV, ↓xq_put2n, ↓xq_parKK, ↓xq_par2f, ↓xq_dcomp, ↓xq_wwS_nx, ↓xq_wwS_ct, ↓xq_wwS_br, ↓xq_wwS_rt, ↓xq_wwS_exc, ↓xq_compM, ↓xq_orN, ↓xq_orN_non, EG.runs, EG.run, uOf, ev, evs, evo, evr, evf, mkE, mkL, failL, bopF, copF, bltF, lbltF, env0, wipeE, isiAny, isi1, frzS, Cell.toD, atI_nn, setAt_nn, wp_inSg, Gam.put, clsTab, arrQ, arrP, Pick.of, kwM, rightB, E00, List.map_cons, List.map_nil, List.length_cons, List.length_nil, List.append_nil, List.nil_append, List.cons_append, List.getElem?_cons_zero, List.getElem?_cons_succ, List.getElem?_nil, List.set_cons_zero, List.set_cons_succ, List.filter_cons, List.filter_nil, List.contains_nil, List.elem_nil, Int.reduceNeg, Int.reducePow, nA10, nA2, le_big, Nat.reducePow, Nat.zero_add, Option.map_some, Option.bind_some, Int.reduceLE, Int.reduceToNat, Int.reduceLT, Nat.reduceLT, Nat.reduceAdd, Nat.reduceSub, true_and, and_true, decide_true, decide_false, List.length_append, List.length_map, Nat.reduceLeDiff, Nat.reduceEqDiff, Bool.not_true, Bool.not_false, decide_eq_true_eq, reduceCtorEq, Option.some.injEq, id_eq, List.all_cons, List.all_nil, List.any_cons, List.any_nil, Bool.and_true, Bool.true_and, Bool.and_false, Bool.false_and, Bool.or_true, Bool.or_false, Bool.true_or, Bool.false_or, Int.reduceAdd, Int.reduceSub, beq_self_eq_true, Option.isNone_none, Option.isNone_some, if_true, if_false, ite_true, ite_false, Nat.succ_eq_add_one, Int.natCast_add, Int.natCast_one, Int.cast_ofNat_Int, List.contains_cons, String.reduceEq, List.take_succ_cons, List.take_zero, List.drop_succ_cons, List.drop_zero, List.take_nil, List.drop_nil, List.replicate, Int.natCast_zero, Int.zero_add, kG0, kConsts, kFrees, kCls, kxt_0, kxt_1, kxt_2, kxt_3, kxt_4, kxt_5, kxt_6, kxt_7, kxt_8, kxt_9, kxt_10, kxt_11, kxt_12, kxt_13, kxt_14, kxt_15, kxt_16, kxt_17, kxt_18, kxt_19, kxt_20, kxt_21, kxt_22, kxt_23, kxt_24, kxt_25, kxt_26, kxt_27, kxt_28, kxt_29, kxt_30, kxt_31, kxt_32, kxt_33, kxt_34, kxt_35, kxt_36, kxt_37, kxt_38, kxt_39, kisi_0, kisi_1, kisi_2, kisi_3, kisi_4, kisi_5, kisi_6, kisi_7, kisi_8, kisi_9, kisi_10, kisi_11, kisi_12, kisi_13, kisi_14, kisi_15, kisi_16, kisi_17, kisi_18, kisi_19, kisi_20, kisi_21, kisi_22, kisi_23, kisi_24, kisi_25, kisi_26, kisi_27, kisi_28, kisi_29, kisi_30, kisi_31, kisi_32, kisi_33, kisi_34, kisi_35, kisi_36, kisi_37, kisi_38, kisi_39, kisi_40, kisi_41, kisi_42, kisi_43, kisi_44, kisi_45, kisi_46, kisi_47, kisi_48, kisi_49, kisi_50, kisi_51, kisi_52, kisi_53, kisi_54, kisi_55, kisi_56, kisi_57, kisi_58, kisi_59, kisi_60, kisi_61, kisi_62, kisi_63, kisi_64, kisi_65, kisi_66, kisi_67, kisi_68, kisi_69, kisi_70, kisi_71, kisi_72, kisi_73, kisi_74, kisi_75, kisi_76, kisi_77, kisi_78, kisi_79, kisi_80, kisi_81, kisi_82, kisi_83, kisi_84, kisi_85, kisi_86, kisi_87, kisi_88, kisi_89, kisi_90, kisi_91, kisi_92, kisi_93, kisi_94, kisi_95, kisi_96, kisi_97, kisi_98, kisi_99, kisi_100, kisi_101, kisi_102, kisi_103, kisi_104, kisi_105, kisi_106, kisi_107, kisi_108, kisi_109, kisi_110, kisi_111, kisi_112, kisi_113, kisi_114, kisi_115, kisi_116, kisi_117, kisi_118, kisi_119, kisi_120, kisi_121, kisi_122, kisi_123, kisi_124, kisi_125, kisi_126, kisi_127, kisi_128, kisi_129, kisi_130, kisi_131, kisi_132, kisi_133, kisi_134, kisi_135, kisi_136, kisi_137, kisi_138, kisi_139, kisi_140, kisi_141, kisi_142, kisi_143, kisi_144, kisi_145, kisi_146, kisi_147, kisi_148, kisi_149, kisi_150, kisi_151, kisi_152, kisi_153, dflD_law_same, kwdD_law_same, T_law_same, dflD_law_field, kwdD_law_field, T_law_field, dflD_law_numbered_errors, kwdD_law_numbered_errors, T_law_numbered_errors, dflD_law_placed_errors, kwdD_law_placed_errors, T_law_placed_errors, dflD_law_named_errors, kwdD_law_named_errors, T_law_named_errors, dflD_law_all_errors, kwdD_law_all_errors, U0_law_numbered_errors, U1_law_placed_errors, U2_law_named_errors, T_law_all_errors, dflD_law_all_by_name, kwdD_law_all_by_name, T_law_all_by_name, dflD_law_pull, kwdD_law_pull, T_law_pull, dflD_law_of, kwdD_law_of, U3_law_pull, T_law_of, dflD_law_bag, kwdD_law_bag, T_law_bag, dflD_law, kwdD_law, U4_law_same, U5_law_field, U6_law_all_errors, U7_law_all_by_name, U8_law_of, U9_law_bag, T_law, kExs, kECls, ↓xv_isX, xv_isi1, xv_ex1, kExs, kECls, ↓vm_NothingLeft, ↓vm_HoldingRule, ↓vm_LostWorth, ↓vm_InvalidPiece, ↓vm_TooMany, ↓vm_Full, ↓vm_InvalidPage, ↓vm_InvalidRule, ↓vm_InvalidNumber, ↓vm_UnknownTick, ↓vm_UnknownMeter, ↓vm_InvalidLimit, ↓vm_InvalidName, ↓vm_InvalidText, ↓vm_InvalidUnknown, ↓vm_InvalidRow, ↓vm_InvalidCommand, ↓vm_InvalidReadings, ↓vm_InvalidMeter, ↓vm_UnknownName, ↓vm_WrongKind, ↓vm_DuplicateName, vx_NothingLeft, vx_HoldingRule, vx_LostWorth, vx_InvalidPiece, vx_TooMany, vx_Full, vx_InvalidPage, vx_InvalidRule, vx_InvalidNumber, vx_UnknownTick, vx_UnknownMeter, vx_InvalidLimit, vx_InvalidName, vx_InvalidText, vx_InvalidUnknown, vx_InvalidRow, vx_InvalidCommand, vx_InvalidReadings, vx_InvalidMeter, vx_UnknownName, vx_WrongKind, vx_DuplicateName])
local macro_rules
  | `(tactic| exact_mod_cast ⟨$es,*⟩) => `(tactic| simp only [↓br_true, ↓br_false, ↓op_some, ↓wp_bind, ↓wp_pure, ↓wp_fail, ↓wp_opt, ↓wp_guard, ↓wp_v, ↓wp_vB, ↓wp_c, ↓wp_op2, ↓wp_op2L, ↓wp_t, ↓wp_tru, ↓wp_chain, ↓wp_andT, ↓wp_orT, ↓wp_notT, ↓wp_andV, ↓wp_orV, ↓wp_notV, ↓wp_if, ↓wp_nil, ↓wp_cons, ↓wp_tup, ↓wp_lst, ↓wp_D, ↓wp_cb, ↓wp_call, ↓wp_isi, ↓wp_neg, ↓wp_sl, ↓wp_noP, ↓wp_P, ↓wp_yes, ↓wp_items, ↓wp_signs, ↓wp_comp, ↓ws_seq, ↓thn_nx, ↓thn_rt, ↓thn_br, ↓thn_ct, ↓thn_exc, ↓ws_skip, ↓ws_break, ↓ws_cont, ↓ws_retN, ↓ws_set, ↓ws_own, ↓ws_ret, ↓ws_drop, ↓ws_if, ↓ws_asg, ↓ws_par3, ↓ws_par3o, ↓ws_par, ↓ws_setC, ↓wp_newc, ↓ws_app, ↓ws_ext, ↓ws_setI, ↓ws_frz, ↓ws_for, ↓wl_nil, ↓wl_cons, ↓wf_run, ↓retS_nx, ↓retS_rt, ↓lpS_nx, ↓lpS_ct, ↓lpS_br, ↓lpS_rt, ↓turn_nx, ↓turn_ct, ↓turn_br, ↓turn_rt, ↓wp_addI, ↓wp_addS, ↓wp_subI, ↓wp_mulI, ↓wp_divI, ↓wp_modI, ↓wp_powI, ↓wp_cmpI, ↓wp_eq, ↓wp_ne, ↓wp_negI, ↓wp_seqE, ↓wp_lstE, ↓wp_ixL, ↓wp_ixT, ↓wp_ixC, ↓wp_ixS, ↓wp_lenS, ↓wp_lenL, ↓wp_lenT, ↓wp_lenC, ↓wp_absI, ↓wp_intI, ↓wp_intB, ↓wp_intS, ↓wp_strI, ↓wp_boolI, ↓wp_boolB, ↓wp_all, ↓wp_any, ↓wp_sum, ↓wp_max2, ↓wp_min2, ↓wp_minT, ↓wp_list, ↓wp_tuple, ↓wp_sorted, ↓wp_slS, ↓wp_slT, ↓wp_slLD, ↓wp_slC, ↓wp_slL, ↓wp_range1, ↓wp_range2, ↓wp_enum, ↓wp_enumT, ↓wp_zip, ↓wp_zipTT, ↓wp_zipTL, ↓wp_zipLT, ↓wp_cat, ↓wp_rep, ↓wp_inSg, ↓wp_notInSg, ↓wp_inL, ↓wp_inT, ↓wp_notIn, ↓wp_isN, ↓wp_notN, ↓wp_isB, ↓wp_notB, tt1, tt2, tt3, tt4, tt5, tt6, tu1, tu2, tu3, tu4, tu5, tu6, tu7, tu8, tu9, tu10, tu11, tu12, tu13, tu14, tu15, tu16, tu17, tu18, tu19, tu20, tu21, tu22, tu23, tu24, asB_bl, truD_non, truD_bl, truD_int, truD_str, truD_lst, truD_tup, asI_int, asS_str, items_lst, items_tup, items_str, valS_v, valB_v, valB_own, seqD_lst, seqD_tup, seqD_cell0, lstD_lst, lstD_cell0, cellL_0, own_lst, nonB_non, nonB_bl, nonB_int, nonB_str, nonB_lst, nonB_tup, nonB_cell, nonB_obj, bools_nil, bools_cons, ints_nil, ints_cons, eqD_ii, eqD_bb, eqD_ss, eqD_nn, eqD_ni, eqD_in, eqD_nb, eqD_bn, eqD_ns, eqD_sn, eqD_is, eqD_si, eqD_bs, eqD_sb, tag_non, tag_bl, tag_int, tag_str, tag_lst, tag_tup, tag_obj, bindP_nm, bindP_tp, bindP_tl, bindPs_nil, bindPs_cons, ↓wp_get, ↓wp_meth, ↓wp_prop, ↓ws_setF, ↓wp_mk, ↓wp_own, ↓wp_kd, ↓wp_methK, ↓wp_ownNe, ↓wp_own1, ↓wp_ownT, ↓wp_fstr, ↓wp_fFn, ↓wp_fFc, ↓wp_fmtS, ↓wp_fmtI, kok_len, kok_repr, kok_bool, eqD_tt, eqD_ll, plB_non, plB_bl, plB_int, plB_str, plB_lst, plB_tup, eqBs_nn, eqBs_cc, eqBs_nc, eqBs_cn, eqB_ii, eqB_bb, eqB_ss, eqB_nn, eqB_ll, eqB_tt, eqB_ni, eqB_in, eqB_nt, eqB_tn, eqB_it, eqB_ti, ↓wp_addT, ↓wp_addL, ↓wp_mulL, objD_obj, objD_last, cellO_last, set_last, isO_obj, isO_last, putD_nil, putD_cons, lkp_nil, lkp_cons, bel_plain, bels_plain, belF_nil, belF_cons, rng_0, rng_1, rng_2, rng_3, enL_nil, enL_cons, zpL_nil, zpL_nilR, zpL_cons, ↓wp_maxL, ↓wp_minL, maxL_2, maxL_1, minL_2, minL_1, bel_non, bel_bl, bel_int, bel_str, bel_lst, bel_tup, bel_obj, bels_nil, bels_cons, kst_app0, ctl_hi, ctl_lo, ctl_no, kst_inj, ↓wp_rgI1, ↓wp_rgI2, ↓wp_rg1, ↓wp_rg2, ↓wp_callO, kst_beq, ↓ws_appC, ↓wp_compZ, ↓wp_zipM, ↓wp_compLN, ↓wp_compLC, seqD_mL, seqD_mT, seqD_mC, kst_kL, kst_kT, keep_cell, tag_cellL, ↓wp_u, ↓wp_lone, ↓wp_star, dataL_lst, dataL_tup, ↓wp_cu, ↓wp_mu, ↓wp_mku, ↓wp_lmu, isCls_eq, ↓wu_F, ↓wu_S, ↓ws_forM, ↓wfm_lst, ↓wfm_tup, ↓xq_rl0, ↓xq_rl1, ↓xq_raise, ↓xq_exD0, ↓xq_exD1, ↓xq_exS, ↓xq_retS, ↓xq_thn, ↓xq_try, ↓xq_tk_nx, ↓xq_tk_rt, ↓xq_tk_br, ↓xq_tk_ct, ↓xq_tk_exc, ↓xq_ek_nx, ↓xq_ek_rt, ↓xq_xf, ↓xq_xfD, ↓xq_callQ, seqD_cell2, lstD_cell2, cellL_2, seqD_cell3, lstD_cell3, cellL_3, seqD_cell4, lstD_cell4, cellL_4, seqD_cell5, lstD_cell5, cellL_5, ↓xq_inS_nil, ↓xq_inS_cons, ↓xq_cloS, ↓xq_capM, ↓xq_act, ↓xq_lam1, ↓xq_lam2, ↓xq_lam3, ↓xq_lam4, ↓xq_lf, ↓xq_lamF, ↓xq_callZ, ↓xq_lendF, ↓xq_caps_nil, ↓xq_caps, ↓xq_envL_nil, ↓xq_envL, ↓xq_slotL, ↓xq_par2o, ↓xq_inPL, ↓xq_notInPL, ↓xq_clearC, ↓xq_inT, ↓xq_newT, ↓xq_putT, ↓xq_ins, ↓xq_mulT, ↓xq_rev, ↓xq_zip3, kst_rep1, kst_rep2, kst_rep3, kst_rep4, kst_seqL, kst_seqT, zpL_3nil, zpL_3cons, ↓xq_ownOp, ↓xq_ownIn, ↓xq_comp2, asStr_str, asStr_int, strsK_nil, strsK_cons, ↓xq_fM1, ↓xq_join, ↓xq_split, ↓xq_fW, ↓xq_fW2, ↓xq_wIn, ↓xq_wIx, ↓xq_wGet, ↓xq_tryP, ↓xq_c2n, ↓xq_c2c, ↓xq_slN, ↓xq_tp_nx, ↓xq_tp_rt, ↓xq_tp_br, ↓xq_tp_ct, ↓xq_keyI, ↓xq_keyS, ↓xq_inK, ↓xq_ixK, ↓xq_oKO, ↓xq_newK, ↓xq_putKV, ↓xq_putK, ↓xq_three, ↓xq_setV, ↓xq_put2n, ↓xq_parKK, ↓xq_par2f, ↓xq_dcomp, ↓xq_wwS_nx, ↓xq_wwS_ct, ↓xq_wwS_br, ↓xq_wwS_rt, ↓xq_wwS_exc, ↓xq_compM, ↓xq_orN, ↓xq_orN_non, EG.runs, EG.run, uOf, ev, evs, evo, evr, evf, mkE, mkL, failL, bopF, copF, bltF, lbltF, env0, wipeE, isiAny, isi1, frzS, Cell.toD, atI_nn, setAt_nn, wp_inSg, Gam.put, clsTab, arrQ, arrP, Pick.of, kwM, rightB, E00, List.map_cons, List.map_nil, List.length_cons, List.length_nil, List.append_nil, List.nil_append, List.cons_append, List.getElem?_cons_zero, List.getElem?_cons_succ, List.getElem?_nil, List.set_cons_zero, List.set_cons_succ, List.filter_cons, List.filter_nil, List.contains_nil, List.elem_nil, Int.reduceNeg, Int.reducePow, nA10, nA2, le_big, Nat.reducePow, Nat.zero_add, Option.map_some, Option.bind_some, Int.reduceLE, Int.reduceToNat, Int.reduceLT, Nat.reduceLT, Nat.reduceAdd, Nat.reduceSub, true_and, and_true, decide_true, decide_false, List.length_append, List.length_map, Nat.reduceLeDiff, Nat.reduceEqDiff, Bool.not_true, Bool.not_false, decide_eq_true_eq, reduceCtorEq, Option.some.injEq, id_eq, List.all_cons, List.all_nil, List.any_cons, List.any_nil, Bool.and_true, Bool.true_and, Bool.and_false, Bool.false_and, Bool.or_true, Bool.or_false, Bool.true_or, Bool.false_or, Int.reduceAdd, Int.reduceSub, beq_self_eq_true, Option.isNone_none, Option.isNone_some, if_true, if_false, ite_true, ite_false, Nat.succ_eq_add_one, Int.natCast_add, Int.natCast_one, Int.cast_ofNat_Int, List.contains_cons, String.reduceEq, List.take_succ_cons, List.take_zero, List.drop_succ_cons, List.drop_zero, List.take_nil, List.drop_nil, List.replicate, Int.natCast_zero, Int.zero_add, kG0, kConsts, kFrees, kCls, kxt_0, kxt_1, kxt_2, kxt_3, kxt_4, kxt_5, kxt_6, kxt_7, kxt_8, kxt_9, kxt_10, kxt_11, kxt_12, kxt_13, kxt_14, kxt_15, kxt_16, kxt_17, kxt_18, kxt_19, kxt_20, kxt_21, kxt_22, kxt_23, kxt_24, kxt_25, kxt_26, kxt_27, kxt_28, kxt_29, kxt_30, kxt_31, kxt_32, kxt_33, kxt_34, kxt_35, kxt_36, kxt_37, kxt_38, kxt_39, kisi_0, kisi_1, kisi_2, kisi_3, kisi_4, kisi_5, kisi_6, kisi_7, kisi_8, kisi_9, kisi_10, kisi_11, kisi_12, kisi_13, kisi_14, kisi_15, kisi_16, kisi_17, kisi_18, kisi_19, kisi_20, kisi_21, kisi_22, kisi_23, kisi_24, kisi_25, kisi_26, kisi_27, kisi_28, kisi_29, kisi_30, kisi_31, kisi_32, kisi_33, kisi_34, kisi_35, kisi_36, kisi_37, kisi_38, kisi_39, kisi_40, kisi_41, kisi_42, kisi_43, kisi_44, kisi_45, kisi_46, kisi_47, kisi_48, kisi_49, kisi_50, kisi_51, kisi_52, kisi_53, kisi_54, kisi_55, kisi_56, kisi_57, kisi_58, kisi_59, kisi_60, kisi_61, kisi_62, kisi_63, kisi_64, kisi_65, kisi_66, kisi_67, kisi_68, kisi_69, kisi_70, kisi_71, kisi_72, kisi_73, kisi_74, kisi_75, kisi_76, kisi_77, kisi_78, kisi_79, kisi_80, kisi_81, kisi_82, kisi_83, kisi_84, kisi_85, kisi_86, kisi_87, kisi_88, kisi_89, kisi_90, kisi_91, kisi_92, kisi_93, kisi_94, kisi_95, kisi_96, kisi_97, kisi_98, kisi_99, kisi_100, kisi_101, kisi_102, kisi_103, kisi_104, kisi_105, kisi_106, kisi_107, kisi_108, kisi_109, kisi_110, kisi_111, kisi_112, kisi_113, kisi_114, kisi_115, kisi_116, kisi_117, kisi_118, kisi_119, kisi_120, kisi_121, kisi_122, kisi_123, kisi_124, kisi_125, kisi_126, kisi_127, kisi_128, kisi_129, kisi_130, kisi_131, kisi_132, kisi_133, kisi_134, kisi_135, kisi_136, kisi_137, kisi_138, kisi_139, kisi_140, kisi_141, kisi_142, kisi_143, kisi_144, kisi_145, kisi_146, kisi_147, kisi_148, kisi_149, kisi_150, kisi_151, kisi_152, kisi_153, dflD_law_same, kwdD_law_same, T_law_same, dflD_law_field, kwdD_law_field, T_law_field, dflD_law_numbered_errors, kwdD_law_numbered_errors, T_law_numbered_errors, dflD_law_placed_errors, kwdD_law_placed_errors, T_law_placed_errors, dflD_law_named_errors, kwdD_law_named_errors, T_law_named_errors, dflD_law_all_errors, kwdD_law_all_errors, U0_law_numbered_errors, U1_law_placed_errors, U2_law_named_errors, T_law_all_errors, dflD_law_all_by_name, kwdD_law_all_by_name, T_law_all_by_name, dflD_law_pull, kwdD_law_pull, T_law_pull, dflD_law_of, kwdD_law_of, U3_law_pull, T_law_of, dflD_law_bag, kwdD_law_bag, T_law_bag, dflD_law, kwdD_law, U4_law_same, U5_law_field, U6_law_all_errors, U7_law_all_by_name, U8_law_of, U9_law_bag, T_law, kExs, kECls, ↓xv_isX, xv_isi1, xv_ex1, kExs, kECls, ↓vm_NothingLeft, ↓vm_HoldingRule, ↓vm_LostWorth, ↓vm_InvalidPiece, ↓vm_TooMany, ↓vm_Full, ↓vm_InvalidPage, ↓vm_InvalidRule, ↓vm_InvalidNumber, ↓vm_UnknownTick, ↓vm_UnknownMeter, ↓vm_InvalidLimit, ↓vm_InvalidName, ↓vm_InvalidText, ↓vm_InvalidUnknown, ↓vm_InvalidRow, ↓vm_InvalidCommand, ↓vm_InvalidReadings, ↓vm_InvalidMeter, ↓vm_UnknownName, ↓vm_WrongKind, ↓vm_DuplicateName, vx_NothingLeft, vx_HoldingRule, vx_LostWorth, vx_InvalidPiece, vx_TooMany, vx_Full, vx_InvalidPage, vx_InvalidRule, vx_InvalidNumber, vx_UnknownTick, vx_UnknownMeter, vx_InvalidLimit, vx_InvalidName, vx_InvalidText, vx_InvalidUnknown, vx_InvalidRow, vx_InvalidCommand, vx_InvalidReadings, vx_InvalidMeter, vx_UnknownName, vx_WrongKind, vx_DuplicateName, $[$es:term],*])
theorem field_NothingLeft (hq : Q (.tup []) μ) : Wf F_law_field [.err 2 [("code", .str "NothingLeft")]] μ Q E := by
  unfold F_law_field C_law_field
  sizeOf_list_dec
  exact hq
theorem field_HoldingRule (hq : Q (.tup []) μ) : Wf F_law_field [.err 5 [("code", .str "HoldingRule")]] μ Q E := by
  unfold F_law_field C_law_field
  sizeOf_list_dec
  exact hq
theorem field_LostWorth (hq : Q (.tup []) μ) : Wf F_law_field [.err 6 [("code", .str "LostWorth")]] μ Q E := by
  unfold F_law_field C_law_field
  sizeOf_list_dec
  exact hq
theorem field_InvalidPiece (hq : Q (.tup []) μ) : Wf F_law_field [.err 7 [("code", .str "InvalidPiece")]] μ Q E := by
  unfold F_law_field C_law_field
  sizeOf_list_dec
  exact hq
theorem field_TooMany {v : D} (hq : Q (.tup [v]) μ) : Wf F_law_field [.err 8 [("most", v), ("code", .str "TooMany")]] μ Q E := by
  unfold F_law_field C_law_field
  sizeOf_list_dec
  exact hq
theorem field_Full {v : D} (hq : Q (.tup [v]) μ) : Wf F_law_field [.err 9 [("limit", v), ("code", .str "Full")]] μ Q E := by
  unfold F_law_field C_law_field
  sizeOf_list_dec
  exact hq
theorem field_InvalidPage {v : D} (hq : Q (.tup [v]) μ) : Wf F_law_field [.err 10 [("line", v), ("code", .str "InvalidPage")]] μ Q E := by
  unfold F_law_field C_law_field
  sizeOf_list_dec
  exact hq
theorem field_InvalidRule {v : D} (hq : Q (.tup [v]) μ) : Wf F_law_field [.err 11 [("what", v), ("code", .str "InvalidRule")]] μ Q E := by
  unfold F_law_field C_law_field
  sizeOf_list_dec
  exact hq
theorem field_InvalidNumber {v : D} (hq : Q (.tup [v]) μ) : Wf F_law_field [.err 0 [("given", v), ("code", .str "InvalidNumber")]] μ Q E := by
  unfold F_law_field C_law_field
  sizeOf_list_dec
  exact hq
theorem field_UnknownTick {v : D} (hq : Q (.tup [v]) μ) : Wf F_law_field [.err 12 [("given", v), ("code", .str "UnknownTick")]] μ Q E := by
  unfold F_law_field C_law_field
  sizeOf_list_dec
  exact hq
theorem field_UnknownMeter {v : D} (hq : Q (.tup [v]) μ) : Wf F_law_field [.err 1 [("given", v), ("code", .str "UnknownMeter")]] μ Q E := by
  unfold F_law_field C_law_field
  sizeOf_list_dec
  exact hq
theorem field_InvalidLimit {v : D} (hq : Q (.tup [v]) μ) : Wf F_law_field [.err 13 [("given", v), ("code", .str "InvalidLimit")]] μ Q E := by
  unfold F_law_field C_law_field
  sizeOf_list_dec
  exact hq
theorem field_InvalidName {v : D} (hq : Q (.tup [v]) μ) : Wf F_law_field [.err 14 [("given", v), ("code", .str "InvalidName")]] μ Q E := by
  unfold F_law_field C_law_field
  sizeOf_list_dec
  exact hq
theorem field_InvalidText {v : D} (hq : Q (.tup [v]) μ) : Wf F_law_field [.err 15 [("given", v), ("code", .str "InvalidText")]] μ Q E := by
  unfold F_law_field C_law_field
  sizeOf_list_dec
  exact hq
theorem field_InvalidUnknown {v : D} (hq : Q (.tup [v]) μ) : Wf F_law_field [.err 16 [("given", v), ("code", .str "InvalidUnknown")]] μ Q E := by
  unfold F_law_field C_law_field
  sizeOf_list_dec
  exact hq
theorem field_InvalidRow {v : D} (hq : Q (.tup [v]) μ) : Wf F_law_field [.err 17 [("at", v), ("code", .str "InvalidRow")]] μ Q E := by
  unfold F_law_field C_law_field
  sizeOf_list_dec
  exact hq
theorem field_InvalidCommand {v : D} (hq : Q (.tup [v]) μ) : Wf F_law_field [.err 18 [("at", v), ("code", .str "InvalidCommand")]] μ Q E := by
  unfold F_law_field C_law_field
  sizeOf_list_dec
  exact hq
theorem field_InvalidReadings {v : D} (hq : Q (.tup [v]) μ) : Wf F_law_field [.err 19 [("at", v), ("code", .str "InvalidReadings")]] μ Q E := by
  unfold F_law_field C_law_field
  sizeOf_list_dec
  exact hq
theorem field_InvalidMeter {v : D} (hq : Q (.tup [v]) μ) : Wf F_law_field [.err 20 [("at", v), ("code", .str "InvalidMeter")]] μ Q E := by
  unfold F_law_field C_law_field
  sizeOf_list_dec
  exact hq
theorem field_UnknownName {v : D} (hq : Q (.tup [v]) μ) : Wf F_law_field [.err 21 [("name", v), ("code", .str "UnknownName")]] μ Q E := by
  unfold F_law_field C_law_field
  sizeOf_list_dec
  exact hq
theorem field_WrongKind {v : D} (hq : Q (.tup [v]) μ) : Wf F_law_field [.err 22 [("name", v), ("code", .str "WrongKind")]] μ Q E := by
  unfold F_law_field C_law_field
  sizeOf_list_dec
  exact hq
theorem field_DuplicateName {v : D} (hq : Q (.tup [v]) μ) : Wf F_law_field [.err 23 [("name", v), ("code", .str "DuplicateName")]] μ Q E := by
  unfold F_law_field C_law_field
  sizeOf_list_dec
  exact hq
theorem numbered_spec {v : D} (hq : Q (.lst [.err 0 [("given", v), ("code", .str "InvalidNumber")], .err 16 [("given", v), ("code", .str "InvalidUnknown")], .err 15 [("given", v), ("code", .str "InvalidText")], .err 14 [("given", v), ("code", .str "InvalidName")], .err 13 [("given", v), ("code", .str "InvalidLimit")], .err 1 [("given", v), ("code", .str "UnknownMeter")], .err 12 [("given", v), ("code", .str "UnknownTick")], .err 0 [("given", v), ("code", .str "InvalidNumber")]]) μ) : Wf F_law_numbered_errors [v] μ Q E := by
  unfold F_law_numbered_errors C_law_numbered_errors
  sizeOf_list_dec
  exact hq
theorem placed_spec {v : D} (hq : Q (.lst [.err 20 [("at", v), ("code", .str "InvalidMeter")], .err 19 [("at", v), ("code", .str "InvalidReadings")], .err 17 [("at", v), ("code", .str "InvalidRow")], .err 18 [("at", v), ("code", .str "InvalidCommand")], .err 17 [("at", v), ("code", .str "InvalidRow")]]) μ) : Wf F_law_placed_errors [v] μ Q E := by
  unfold F_law_placed_errors C_law_placed_errors
  sizeOf_list_dec
  exact hq
theorem named_spec {v : D} (hq : Q (.lst [.err 23 [("name", v), ("code", .str "DuplicateName")], .err 22 [("name", v), ("code", .str "WrongKind")], .err 21 [("name", v), ("code", .str "UnknownName")], .err 21 [("name", v), ("code", .str "UnknownName")]]) μ) : Wf F_law_named_errors [v] μ Q E := by
  unfold F_law_named_errors C_law_named_errors
  sizeOf_list_dec
  exact hq
theorem all_spec {v : D} (hq : Q (.lst [.err 0 [("given", v), ("code", .str "InvalidNumber")], .err 16 [("given", v), ("code", .str "InvalidUnknown")], .err 15 [("given", v), ("code", .str "InvalidText")], .err 14 [("given", v), ("code", .str "InvalidName")], .err 13 [("given", v), ("code", .str "InvalidLimit")], .err 1 [("given", v), ("code", .str "UnknownMeter")], .err 12 [("given", v), ("code", .str "UnknownTick")], .err 0 [("given", v), ("code", .str "InvalidNumber")], .err 20 [("at", v), ("code", .str "InvalidMeter")], .err 19 [("at", v), ("code", .str "InvalidReadings")], .err 17 [("at", v), ("code", .str "InvalidRow")], .err 18 [("at", v), ("code", .str "InvalidCommand")], .err 17 [("at", v), ("code", .str "InvalidRow")], .err 23 [("name", v), ("code", .str "DuplicateName")], .err 22 [("name", v), ("code", .str "WrongKind")], .err 21 [("name", v), ("code", .str "UnknownName")], .err 21 [("name", v), ("code", .str "UnknownName")], .err 11 [("what", v), ("code", .str "InvalidRule")], .err 10 [("line", v), ("code", .str "InvalidPage")], .err 9 [("limit", v), ("code", .str "Full")], .err 8 [("most", v), ("code", .str "TooMany")], .err 11 [("what", v), ("code", .str "InvalidRule")], .err 10 [("line", v), ("code", .str "InvalidPage")], .err 9 [("limit", v), ("code", .str "Full")], .err 8 [("most", v), ("code", .str "TooMany")], .err 7 [("code", .str "InvalidPiece")], .err 6 [("code", .str "LostWorth")], .err 5 [("code", .str "HoldingRule")], .err 2 [("code", .str "NothingLeft")]]) μ) : Wf F_law_all_errors [v] μ Q E := by
  unfold F_law_all_errors C_law_all_errors
  sizeOf_list_dec
  with_reducible refine numbered_spec ?_
  sizeOf_list_dec
  with_reducible refine placed_spec ?_
  sizeOf_list_dec
  with_reducible refine named_spec ?_
  sizeOf_list_dec
  exact ⟨rfl, rfl, rfl, rfl, hq⟩
theorem byname_spec {v : D} (hq : Q (.lst [.err 0 [("given", v), ("code", .str "InvalidNumber")], .err 16 [("given", v), ("code", .str "InvalidUnknown")], .err 20 [("at", v), ("code", .str "InvalidMeter")], .err 11 [("what", v), ("code", .str "InvalidRule")], .err 19 [("at", v), ("code", .str "InvalidReadings")], .err 17 [("at", v), ("code", .str "InvalidRow")], .err 15 [("given", v), ("code", .str "InvalidText")], .err 10 [("line", v), ("code", .str "InvalidPage")], .err 14 [("given", v), ("code", .str "InvalidName")], .err 18 [("at", v), ("code", .str "InvalidCommand")], .err 13 [("given", v), ("code", .str "InvalidLimit")], .err 23 [("name", v), ("code", .str "DuplicateName")], .err 22 [("name", v), ("code", .str "WrongKind")], .err 9 [("limit", v), ("code", .str "Full")], .err 8 [("most", v), ("code", .str "TooMany")], .err 21 [("name", v), ("code", .str "UnknownName")], .err 1 [("given", v), ("code", .str "UnknownMeter")], .err 12 [("given", v), ("code", .str "UnknownTick")]]) μ) : Wf F_law_all_by_name [v] μ Q E := by
  unfold F_law_all_by_name C_law_all_by_name
  sizeOf_list_dec
  exact hq
theorem same_s {n : Nat} {d : D} (h : sameB n d = true) (hq : Q (.bl true) μ) : Wf (F_law_same n) [d, d] μ Q E :=
  same_spec (F := F_law_same) (G := fun n => kG0.put (T_law_same n (F_law_same n))) (lv := fun n => n + 0) (fun _ => rfl) (fun _ => rfl) n _ _ _ _ h hq
def Inv (v : D) (ns : List Int) (b2 : Cell) : List D → EG.Env → Mu → Prop := fun r env μ => (∀ x ∈ r, ∃ j : Nat, j < 29 ∧ x = .int (j : Int)) ∧ (∃ s6 s7 s8 s9 s10 s11 s12, env = [.v (.scr ns), .v (.cell 0), .v v, .v (.lst [.str "InvalidNumber", .str "InvalidUnknown", .str "InvalidText", .str "InvalidName", .str "InvalidLimit", .str "UnknownMeter", .str "UnknownTick", .str "InvalidNumber", .str "InvalidMeter", .str "InvalidReadings", .str "InvalidRow", .str "InvalidCommand", .str "InvalidRow", .str "DuplicateName", .str "WrongKind", .str "UnknownName", .str "UnknownName", .str "InvalidRule", .str "InvalidPage", .str "Full", .str "TooMany", .str "InvalidRule", .str "InvalidPage", .str "Full", .str "TooMany"]), .v (.lst [.str "InvalidPiece", .str "LostWorth", .str "HoldingRule", .str "NothingLeft"]), .v (.lst [.err 0 [("given", v), ("code", .str "InvalidNumber")], .err 16 [("given", v), ("code", .str "InvalidUnknown")], .err 15 [("given", v), ("code", .str "InvalidText")], .err 14 [("given", v), ("code", .str "InvalidName")], .err 13 [("given", v), ("code", .str "InvalidLimit")], .err 1 [("given", v), ("code", .str "UnknownMeter")], .err 12 [("given", v), ("code", .str "UnknownTick")], .err 0 [("given", v), ("code", .str "InvalidNumber")], .err 20 [("at", v), ("code", .str "InvalidMeter")], .err 19 [("at", v), ("code", .str "InvalidReadings")], .err 17 [("at", v), ("code", .str "InvalidRow")], .err 18 [("at", v), ("code", .str "InvalidCommand")], .err 17 [("at", v), ("code", .str "InvalidRow")], .err 23 [("name", v), ("code", .str "DuplicateName")], .err 22 [("name", v), ("code", .str "WrongKind")], .err 21 [("name", v), ("code", .str "UnknownName")], .err 21 [("name", v), ("code", .str "UnknownName")], .err 11 [("what", v), ("code", .str "InvalidRule")], .err 10 [("line", v), ("code", .str "InvalidPage")], .err 9 [("limit", v), ("code", .str "Full")], .err 8 [("most", v), ("code", .str "TooMany")], .err 11 [("what", v), ("code", .str "InvalidRule")], .err 10 [("line", v), ("code", .str "InvalidPage")], .err 9 [("limit", v), ("code", .str "Full")], .err 8 [("most", v), ("code", .str "TooMany")], .err 7 [("code", .str "InvalidPiece")], .err 6 [("code", .str "LostWorth")], .err 5 [("code", .str "HoldingRule")], .err 2 [("code", .str "NothingLeft")]]), s6, s7, s8, s9, s10, s11, s12]) ∧ μ = [b2]
theorem law_wf (ns : List Int) : Wf F_law [.scr ns] [] (fun d _ => d = .bl true) (fun _ _ _ => False) := by
  unfold F_law C_law
  sizeOf_list_dec
  refine bag_spec fun b hb => ?_
  sizeOf_list_dec
  refine pull_spec hb (by decide) (by decide) fun r b1 r1 r2 hb1 => ?_
  sizeOf_list_dec
  refine of_spec rfl rfl hb1 (by simp) (by simp) fun v b2 hv hb2 => ?_
  have hs : ∀ n, sameB (n + 2) v = true := fun n => by
    simp only [List.mem_cons, List.not_mem_nil, or_false] at hv
    rcases hv with rfl | rfl | rfl | rfl | rfl | rfl <;> rfl
  clear hv
  sizeOf_list_dec
  with_reducible refine byname_spec ?_
  sizeOf_list_dec
  with_reducible refine field_InvalidNumber ?_
  sizeOf_list_dec
  with_reducible refine field_InvalidUnknown ?_
  sizeOf_list_dec
  with_reducible refine field_InvalidMeter ?_
  sizeOf_list_dec
  with_reducible refine field_InvalidRule ?_
  sizeOf_list_dec
  with_reducible refine field_InvalidReadings ?_
  sizeOf_list_dec
  with_reducible refine field_InvalidRow ?_
  sizeOf_list_dec
  with_reducible refine field_InvalidText ?_
  sizeOf_list_dec
  with_reducible refine field_InvalidPage ?_
  sizeOf_list_dec
  with_reducible refine field_InvalidName ?_
  sizeOf_list_dec
  with_reducible refine field_InvalidCommand ?_
  sizeOf_list_dec
  with_reducible refine field_InvalidLimit ?_
  sizeOf_list_dec
  with_reducible refine field_DuplicateName ?_
  sizeOf_list_dec
  with_reducible refine field_WrongKind ?_
  sizeOf_list_dec
  with_reducible refine field_Full ?_
  sizeOf_list_dec
  with_reducible refine field_TooMany ?_
  sizeOf_list_dec
  with_reducible refine field_UnknownName ?_
  sizeOf_list_dec
  with_reducible refine field_UnknownMeter ?_
  sizeOf_list_dec
  with_reducible refine field_UnknownTick ?_
  sizeOf_list_dec
  have h5 : sameB 5 (.tup [v]) = true := by
    show ([v].all (sameB 4)) = true
    simp only [List.all_cons, List.all_nil, hs 2, Bool.and_true]
  refine ⟨by decide, ?_⟩
  rw [show repL 18 [D.tup [v]] = [D.tup [v], D.tup [v], D.tup [v], D.tup [v], D.tup [v], D.tup [v], D.tup [v], D.tup [v], D.tup [v], D.tup [v], D.tup [v], D.tup [v], D.tup [v], D.tup [v], D.tup [v], D.tup [v], D.tup [v], D.tup [v]] from rfl]
  with_reducible refine same_s ?_ ?_
  · show ([D.tup [v], D.tup [v], D.tup [v], D.tup [v], D.tup [v], D.tup [v], D.tup [v], D.tup [v], D.tup [v], D.tup [v], D.tup [v], D.tup [v], D.tup [v], D.tup [v], D.tup [v], D.tup [v], D.tup [v], D.tup [v]].all (sameB 5)) = true
    simp only [List.all_cons, List.all_nil, h5, Bool.and_self]
  sizeOf_list_dec
  with_reducible refine all_spec ?_
  sizeOf_list_dec
  have h6 : sameB 6 (.tup [v]) = true := by
    show ([v].all (sameB 5)) = true
    simp only [List.all_cons, List.all_nil, hs 3, Bool.and_true]
  clear h5
  refine wl_inv (Inv v ns b2) ?_ ?_ _ _ _ ⟨fun x hx => ?_, ⟨_, _, _, _, _, _, _, rfl⟩, rfl⟩
  · rintro dd rr env μ ⟨hr, ⟨s6, s7, s8, s9, s10, s11, s12, rfl⟩, rfl⟩
    obtain ⟨j, hj, rfl⟩ := hr dd (List.mem_cons_self ..)
    have hr2 := fun x hx => hr x (List.mem_cons_of_mem _ hx)
    clear hr
    refine ⟨_, bindP_nm, ?_⟩
    obtain rfl | rfl | rfl | rfl | rfl | rfl | rfl | rfl | rfl | rfl | rfl | rfl | rfl | rfl | rfl | rfl | rfl | rfl | rfl | rfl | rfl | rfl | rfl | rfl | rfl | rfl | rfl | rfl | rfl : j = 0 ∨ j = 1 ∨ j = 2 ∨ j = 3 ∨ j = 4 ∨ j = 5 ∨ j = 6 ∨ j = 7 ∨ j = 8 ∨ j = 9 ∨ j = 10 ∨ j = 11 ∨ j = 12 ∨ j = 13 ∨ j = 14 ∨ j = 15 ∨ j = 16 ∨ j = 17 ∨ j = 18 ∨ j = 19 ∨ j = 20 ∨ j = 21 ∨ j = 22 ∨ j = 23 ∨ j = 24 ∨ j = 25 ∨ j = 26 ∨ j = 27 ∨ j = 28 := by omega
    · sizeOf_list_dec
      with_reducible refine field_InvalidNumber ?_
      sizeOf_list_dec
      with_reducible refine same_s h6 ?_
      sizeOf_list_dec
      with_reducible refine same_s rfl ?_
      sizeOf_list_dec
      exact ⟨hr2, ⟨_, _, _, _, _, _, _, rfl⟩, rfl⟩
    · sizeOf_list_dec
      with_reducible refine field_InvalidUnknown ?_
      sizeOf_list_dec
      with_reducible refine same_s h6 ?_
      sizeOf_list_dec
      with_reducible refine same_s rfl ?_
      sizeOf_list_dec
      exact ⟨hr2, ⟨_, _, _, _, _, _, _, rfl⟩, rfl⟩
    · sizeOf_list_dec
      with_reducible refine field_InvalidText ?_
      sizeOf_list_dec
      with_reducible refine same_s h6 ?_
      sizeOf_list_dec
      with_reducible refine same_s rfl ?_
      sizeOf_list_dec
      exact ⟨hr2, ⟨_, _, _, _, _, _, _, rfl⟩, rfl⟩
    · sizeOf_list_dec
      with_reducible refine field_InvalidName ?_
      sizeOf_list_dec
      with_reducible refine same_s h6 ?_
      sizeOf_list_dec
      with_reducible refine same_s rfl ?_
      sizeOf_list_dec
      exact ⟨hr2, ⟨_, _, _, _, _, _, _, rfl⟩, rfl⟩
    · sizeOf_list_dec
      with_reducible refine field_InvalidLimit ?_
      sizeOf_list_dec
      with_reducible refine same_s h6 ?_
      sizeOf_list_dec
      with_reducible refine same_s rfl ?_
      sizeOf_list_dec
      exact ⟨hr2, ⟨_, _, _, _, _, _, _, rfl⟩, rfl⟩
    · sizeOf_list_dec
      with_reducible refine field_UnknownMeter ?_
      sizeOf_list_dec
      with_reducible refine same_s h6 ?_
      sizeOf_list_dec
      with_reducible refine same_s rfl ?_
      sizeOf_list_dec
      exact ⟨hr2, ⟨_, _, _, _, _, _, _, rfl⟩, rfl⟩
    · sizeOf_list_dec
      with_reducible refine field_UnknownTick ?_
      sizeOf_list_dec
      with_reducible refine same_s h6 ?_
      sizeOf_list_dec
      with_reducible refine same_s rfl ?_
      sizeOf_list_dec
      exact ⟨hr2, ⟨_, _, _, _, _, _, _, rfl⟩, rfl⟩
    · sizeOf_list_dec
      with_reducible refine field_InvalidNumber ?_
      sizeOf_list_dec
      with_reducible refine same_s h6 ?_
      sizeOf_list_dec
      with_reducible refine same_s rfl ?_
      sizeOf_list_dec
      exact ⟨hr2, ⟨_, _, _, _, _, _, _, rfl⟩, rfl⟩
    · sizeOf_list_dec
      with_reducible refine field_InvalidMeter ?_
      sizeOf_list_dec
      with_reducible refine same_s h6 ?_
      sizeOf_list_dec
      with_reducible refine same_s rfl ?_
      sizeOf_list_dec
      exact ⟨hr2, ⟨_, _, _, _, _, _, _, rfl⟩, rfl⟩
    · sizeOf_list_dec
      with_reducible refine field_InvalidReadings ?_
      sizeOf_list_dec
      with_reducible refine same_s h6 ?_
      sizeOf_list_dec
      with_reducible refine same_s rfl ?_
      sizeOf_list_dec
      exact ⟨hr2, ⟨_, _, _, _, _, _, _, rfl⟩, rfl⟩
    · sizeOf_list_dec
      with_reducible refine field_InvalidRow ?_
      sizeOf_list_dec
      with_reducible refine same_s h6 ?_
      sizeOf_list_dec
      with_reducible refine same_s rfl ?_
      sizeOf_list_dec
      exact ⟨hr2, ⟨_, _, _, _, _, _, _, rfl⟩, rfl⟩
    · sizeOf_list_dec
      with_reducible refine field_InvalidCommand ?_
      sizeOf_list_dec
      with_reducible refine same_s h6 ?_
      sizeOf_list_dec
      with_reducible refine same_s rfl ?_
      sizeOf_list_dec
      exact ⟨hr2, ⟨_, _, _, _, _, _, _, rfl⟩, rfl⟩
    · sizeOf_list_dec
      with_reducible refine field_InvalidRow ?_
      sizeOf_list_dec
      with_reducible refine same_s h6 ?_
      sizeOf_list_dec
      with_reducible refine same_s rfl ?_
      sizeOf_list_dec
      exact ⟨hr2, ⟨_, _, _, _, _, _, _, rfl⟩, rfl⟩
    · sizeOf_list_dec
      with_reducible refine field_DuplicateName ?_
      sizeOf_list_dec
      with_reducible refine same_s h6 ?_
      sizeOf_list_dec
      with_reducible refine same_s rfl ?_
      sizeOf_list_dec
      exact ⟨hr2, ⟨_, _, _, _, _, _, _, rfl⟩, rfl⟩
    · sizeOf_list_dec
      with_reducible refine field_WrongKind ?_
      sizeOf_list_dec
      with_reducible refine same_s h6 ?_
      sizeOf_list_dec
      with_reducible refine same_s rfl ?_
      sizeOf_list_dec
      exact ⟨hr2, ⟨_, _, _, _, _, _, _, rfl⟩, rfl⟩
    · sizeOf_list_dec
      with_reducible refine field_UnknownName ?_
      sizeOf_list_dec
      with_reducible refine same_s h6 ?_
      sizeOf_list_dec
      with_reducible refine same_s rfl ?_
      sizeOf_list_dec
      exact ⟨hr2, ⟨_, _, _, _, _, _, _, rfl⟩, rfl⟩
    · sizeOf_list_dec
      with_reducible refine field_UnknownName ?_
      sizeOf_list_dec
      with_reducible refine same_s h6 ?_
      sizeOf_list_dec
      with_reducible refine same_s rfl ?_
      sizeOf_list_dec
      exact ⟨hr2, ⟨_, _, _, _, _, _, _, rfl⟩, rfl⟩
    · sizeOf_list_dec
      with_reducible refine field_InvalidRule ?_
      sizeOf_list_dec
      with_reducible refine same_s h6 ?_
      sizeOf_list_dec
      with_reducible refine same_s rfl ?_
      sizeOf_list_dec
      exact ⟨hr2, ⟨_, _, _, _, _, _, _, rfl⟩, rfl⟩
    · sizeOf_list_dec
      with_reducible refine field_InvalidPage ?_
      sizeOf_list_dec
      with_reducible refine same_s h6 ?_
      sizeOf_list_dec
      with_reducible refine same_s rfl ?_
      sizeOf_list_dec
      exact ⟨hr2, ⟨_, _, _, _, _, _, _, rfl⟩, rfl⟩
    · sizeOf_list_dec
      with_reducible refine field_Full ?_
      sizeOf_list_dec
      with_reducible refine same_s h6 ?_
      sizeOf_list_dec
      with_reducible refine same_s rfl ?_
      sizeOf_list_dec
      exact ⟨hr2, ⟨_, _, _, _, _, _, _, rfl⟩, rfl⟩
    · sizeOf_list_dec
      with_reducible refine field_TooMany ?_
      sizeOf_list_dec
      with_reducible refine same_s h6 ?_
      sizeOf_list_dec
      with_reducible refine same_s rfl ?_
      sizeOf_list_dec
      exact ⟨hr2, ⟨_, _, _, _, _, _, _, rfl⟩, rfl⟩
    · sizeOf_list_dec
      with_reducible refine field_InvalidRule ?_
      sizeOf_list_dec
      with_reducible refine same_s h6 ?_
      sizeOf_list_dec
      with_reducible refine same_s rfl ?_
      sizeOf_list_dec
      exact ⟨hr2, ⟨_, _, _, _, _, _, _, rfl⟩, rfl⟩
    · sizeOf_list_dec
      with_reducible refine field_InvalidPage ?_
      sizeOf_list_dec
      with_reducible refine same_s h6 ?_
      sizeOf_list_dec
      with_reducible refine same_s rfl ?_
      sizeOf_list_dec
      exact ⟨hr2, ⟨_, _, _, _, _, _, _, rfl⟩, rfl⟩
    · sizeOf_list_dec
      with_reducible refine field_Full ?_
      sizeOf_list_dec
      with_reducible refine same_s h6 ?_
      sizeOf_list_dec
      with_reducible refine same_s rfl ?_
      sizeOf_list_dec
      exact ⟨hr2, ⟨_, _, _, _, _, _, _, rfl⟩, rfl⟩
    · sizeOf_list_dec
      with_reducible refine field_TooMany ?_
      sizeOf_list_dec
      with_reducible refine same_s h6 ?_
      sizeOf_list_dec
      with_reducible refine same_s rfl ?_
      sizeOf_list_dec
      exact ⟨hr2, ⟨_, _, _, _, _, _, _, rfl⟩, rfl⟩
    · sizeOf_list_dec
      with_reducible refine field_InvalidPiece ?_
      sizeOf_list_dec
      with_reducible refine same_s (d := .tup []) rfl ?_
      sizeOf_list_dec
      with_reducible refine same_s rfl ?_
      sizeOf_list_dec
      exact ⟨hr2, ⟨_, _, _, _, _, _, _, rfl⟩, rfl⟩
    · sizeOf_list_dec
      with_reducible refine field_LostWorth ?_
      sizeOf_list_dec
      with_reducible refine same_s (d := .tup []) rfl ?_
      sizeOf_list_dec
      with_reducible refine same_s rfl ?_
      sizeOf_list_dec
      exact ⟨hr2, ⟨_, _, _, _, _, _, _, rfl⟩, rfl⟩
    · sizeOf_list_dec
      with_reducible refine field_HoldingRule ?_
      sizeOf_list_dec
      with_reducible refine same_s (d := .tup []) rfl ?_
      sizeOf_list_dec
      with_reducible refine same_s rfl ?_
      sizeOf_list_dec
      exact ⟨hr2, ⟨_, _, _, _, _, _, _, rfl⟩, rfl⟩
    · sizeOf_list_dec
      with_reducible refine field_NothingLeft ?_
      sizeOf_list_dec
      with_reducible refine same_s (d := .tup []) rfl ?_
      sizeOf_list_dec
      with_reducible refine same_s rfl ?_
      sizeOf_list_dec
      exact ⟨hr2, ⟨_, _, _, _, _, _, _, rfl⟩, rfl⟩
  · rintro env μ ⟨hr, ⟨s6, s7, s8, s9, s10, s11, s12, rfl⟩, rfl⟩
    sizeOf_list_dec
    done
  · unfold rangeL at hx
    obtain ⟨j, hj, rfl⟩ := List.mem_map.mp hx
    exact ⟨j, List.mem_range.mp hj, by rw [Int.zero_add]⟩
end
theorem law_true : ∀ ns : List Int, ns.length ≤ 63 → ∃ μ, F_law [.scr ns] [] = some (.ok (.bl true), μ) := fun ns _ => by
  have h := law_wf ns
  unfold Wf Wp at h
  cases q : F_law [.scr ns] [] with
  | none => rw [q] at h; exact h.elim
  | some o =>
    obtain ⟨o, μ1⟩ := o
    rw [q] at h
    cases o with
    | exc c fs => exact h.elim
    | ok v =>
      have h : v = .bl true := h
      rw [h]
      exact ⟨μ1, rfl⟩
end EGL
open PySem PySem.W PySem.Calls PyProof.Rows
theorem PySem.Challenge.cw_middlehold_k01_errors_and_their_families_holds : PySem.Challenge.rw_middlehold_k01_errors_and_their_families.Holds := by
  w_on; o_law
  refine HandSHeadRun.head_any (r := PySem.W.OpenLaw.row PySem.Challenge.rw_middlehold_k01_errors_and_their_families) (q := PySem.W.view (PySem.W.OpenLaw.row PySem.Challenge.rw_middlehold_k01_errors_and_their_families).prog [36]) (H := EGL.hk) (ob := EGL.ob) (M := 20000) (loose := EGL.loose) (d := HandSHeadRun.topDef (PySem.W.OpenLaw.row PySem.Challenge.rw_middlehold_k01_errors_and_their_families).prog 36) (kwd := []) EGL.ob_eq
    (by kernel_rfl) (fun s => by kernel_rfl) EGL.run (by kernel_rfl) (by kernel_rfl) (by kernel_rfl) (by rfl) (by first | assumption | decide +kernel) (by decide +kernel) ⟨rfl, rfl, rfl, rfl, rfl, by decide +kernel⟩ ?hw ?hc
  case hw => w_witness2
  case hc =>
    refine L2.walk_ofE (l := PySem.Challenge.rw_middlehold_k01_errors_and_their_families) (n := 63) (k := 7) (x := "_law_script") (CX := L2.CX0) rfl (by decide) (by kernel_rfl) ⟨rfl, by decide, by decide⟩ ?F (fun _ _ _ _ z => z)
    case F =>
      intro w mg fa h Y G hmg0
      obtain ⟨K, KX, c⟩ := Y
      have hmg : mg ("law" : PySem.Str) = some (.ref fa) := by
        have e : (HandSHeadRun.topDef (PySem.W.OpenLaw.row PySem.Challenge.rw_middlehold_k01_errors_and_their_families).prog 36).name = ("law" : PySem.Str) := by kernel_rfl
        rw [← e]
        exact hmg0
      obtain ⟨fd, hb, hF⟩ := EGL.facts (P := (PySem.Challenge.rw_middlehold_k01_errors_and_their_families).prog) (w := w) KX G hmg c (by kernel_rfl) (by decide +kernel)
      exact ⟨K, fd, fun vs H Q _ => EG.spF (EGL.kW K) 1 EGL.F_law vs H Q fun _ _ _ => False, KX, hb, fun H a ns hl _ hS => EG.law_sp (W := EGL.kW K) EGL.law_true H a ns hl hS, fun base h1 h2 => EG.FnOk.calmE (W := EGL.kW K) (hF base h1 h2)⟩

