import PyProof.Rows.All
import Wide.All
import OpenK.AllK
import Wide.FinOn
import HandS.ForMost
import HandS.Evl
import HandS.Exc
import HandS.Lambda
import HandS.Wide
import HandS.ForExc
import HandS.Defaults
import HandS.MakeKw
import PyProof.StrOps2
import HandS.TupAny
import HandS.ExcOwn
import HandS.MakeKwOnly
import HandS.OwnEq
import HandS.IsInst
import PyProof.EqAt
import PyProof.EqKinds
import PyProof.NeKinds
import PyProof.TupleCall
import HandS.Codes
import HandS.Head0
import HandS.Head1
import HandS.Head2
import HandS.HeadEnd
import HandS.HeadHook1
import HandS.HeadHook2
import HandS.More
import HandS.Words
import HandS.WordsExc
import HandS.Ends
import KE.KCallOwn
import OpenK.KOps
import HandS.FStr
import HandS.Text
import HandS.StrMore
import HandS.RaiseMore
import HandS.Small
import HandS.SetFor
import HandS.SortInts
import HandS.Conv
import HandS.Deep
import KE.SortData
import HandS.Replace
import HandS.TupLen
import PyProof.ListRange
import HandS.ExcInit
import HandS.ExcField
import HandS.ExcIs
import KE.KExcInit
import HandS.TryMany
import HandS.ExcValue
import KE.KExcIs
import HandS.Style
import HandS.Flow
import HandS.Zip
import HandS.SortKw
import PyProof.Rows.CallKw2
import HandS.EndTab
import KE.KNest
import KE.SortKeyHeap
import KE.KTupSum
import KE.KStateDown
import Lean
import PySem.Challenge.RW_yarnback_k38_pence_split
set_option Elab.async false
set_option linter.all false
set_option maxRecDepth 100000
set_option maxHeartbeats 20000000
namespace Y
open PySem L2
open Evl (Ex)

/-! ### pure values, owned things, slots -/
inductive W where
  | non | bl (b : Bool) | int (i : Int) | str (s : Str) | ty (n : String) | ob (a : Addr)
  | tup (ws : List W) | lst (ws : List W) | dK (kvs : List (Key × W)) | dT (kvs : List (List Key × W)) | ins (c : Nat) (fs : List W)
  /-- a dict that was locked for good: it may be walked -/
  | dF (kvs : List (Key × W))
  /-- a tuple that is known to have no dict of its own -/
  | tp (ws : List W)
  /-- the script: a list that is read alone -/
  | scr (ns : List Int)
  /-- an error that was caught: its class, its fields -/
  | xc (c : Nat) (fs : List W)
inductive T where
  | fz (w : W) | lst (ws : List W) | dK (kvs : List (Key × W)) | dT (kvs : List (List Key × W)) | ins (c : Nat) (fs : List T)
  /-- a frozen thing, with own lists that lie at known places -/
  | wo (w : W) (ls : List (Addr × List W))
inductive Sl where
  | un | lo (t : T) | mp (k : Nat) (t : T)
  /-- a caller that waits: its variables, its arguments, its slots -/
  | fr (f c : Addr) (q : Str) (σ : L2.St) (pv : List V) (st : List Sl)
abbrev S := List Sl
inductive R where
  | w (w : W) | pk (i : Nat)
/-- an own exception: its class, its fields -/
structure XW where
  c : Nat
  fs : List W
/-- the own classes' fields, in the order in which they are stored -/
def fldN : Nat → List Str
  | 0 => ["least", "most"] | 1 => ["drams"] | 2 => ["pence"] | 3 => ["parts"] | 4 => ["gives", "told"] | 5 => ["room"] | 6 => ["price", "kept", "many"] | 7 => ["book"]
  | 10 => ["text"] | 11 => ["name"] | 12 => ["name"] | 13 => [] | 14 => ["name"] | 15 => ["hour", "day"] | 16 => ["row"] | 17 => ["row"] | 18 => ["name"] | 19 => ["name"]
  | 20 => ["home", "piece"] | 21 => ["thing"] | 22 => ["number"] | 23 => ["long", "ell"] | 24 => ["by"] | 25 => ["paper"] | 26 => [] | 27 => [] | 28 => ["record"]
  | _ => []
/-- where the own classes stand in a law's text -/
structure Zx where
  cls : Nat → Addr
  /-- the classes that stand in the row -/
  has : Nat → Bool
  /-- the tables of code objects of the defs that make lambdas, with the lambdas' names -/
  tabs : List (Addr × Str)
/-- without them -/
abbrev Zx.z0 (Z : Zx) : Zx := ⟨Z.cls, Z.has, []⟩

/-- an error's object, of a class, with a dict of its own or none -/
def exH (a : Addr) (cls : Value) (d : Option Addr) : HO := .ext fun h => ∃ oe vs, h.get? a = some oe ∧ Zc cls d oe ∧ oe.data = .fields vs
abbrev Fp := List (Addr × HO)
mutual
inductive Rep (K : PySem.W.Frag) (Z : Zx) (H : Hp) : V → W → Prop
  | non : Rep K Z H .non .non
  | bl {b} : Rep K Z H (.bl b) (.bl b)
  | int {i} : Rep K Z H (.int i) (.int i)
  | str {s} : Rep K Z H (.str s) (.str s)
  | ty {n} : Rep K Z H (.ty n) (.ty n)
  | ob {a} : Rep K Z H (.ref a) (.ob a)
  | tup {p xs ws} : SqT K H p xs → Reps K Z H xs ws → Rep K Z H (.ref p) (.tup ws)
  | lst {p xs ws} : H p = some (.lst xs) → Reps K Z H xs ws → Rep K Z H (.ref p) (.lst ws)
  | scr {p ns} : SqL K H p (ns.map V.int) → Rep K Z H (.ref p) (.scr ns)
  | dK {p kvs ws} : Rd H p (.dK kvs) → RepK K Z H kvs ws → Rep K Z H (.ref p) (.dK ws)
  | dT {p kvs ws} : Rd H p (.dT kvs) → RepKT K Z H kvs ws → Rep K Z H (.ref p) (.dT ws)
  | dF {p o kvs ws} : H p = some (.frz o (.dK kvs)) → RepK K Z H kvs ws → Rep K Z H (.ref p) (.dF ws)
  | tp {p o xs ws} : H p = some (.frz o (.tup xs)) → o.dict = none → Reps K Z H xs ws → Rep K Z H (.ref p) (.tp ws)
  | ins {p c dx fs ws} : Z.has c = true → H p = some (.ins (Z.cls c) dx fs) → fs.map (·.1) = fldN c → Reps K Z H (fs.map (·.2)) ws → Rep K Z H (.ref p) (.ins c ws)
  | xc0 {a c} : H a = some (exH a (.ref (Z.cls c)) none) → Rep K Z H (.ref a) (.xc c [])
  | xcd {a c d fs ws} : H a = some (exH a (.ref (Z.cls c)) (some d)) → H d = some (.xd fs) → fs.map (·.1) = fldN c → Reps K Z H (fs.map (·.2)) ws → Rep K Z H (.ref a) (.xc c ws)
inductive Reps (K : PySem.W.Frag) (Z : Zx) (H : Hp) : List V → List W → Prop
  | nil : Reps K Z H [] []
  | cons {v w vs ws} : Rep K Z H v w → Reps K Z H vs ws → Reps K Z H (v :: vs) (w :: ws)
inductive RepK (K : PySem.W.Frag) (Z : Zx) (H : Hp) : List (Key × V) → List (Key × W) → Prop
  | nil : RepK K Z H [] []
  | cons {k v w vs ws} : Rep K Z H v w → RepK K Z H vs ws → RepK K Z H ((k, v) :: vs) ((k, w) :: ws)
inductive RepKT (K : PySem.W.Frag) (Z : Zx) (H : Hp) : List (List Key × V) → List (List Key × W) → Prop
  | nil : RepKT K Z H [] []
  | cons {k v w vs ws} : Rep K Z H v w → RepKT K Z H vs ws → RepKT K Z H ((k, v) :: vs) ((k, w) :: ws)
end
/-- own lists at known places -/
inductive RepL (K : PySem.W.Frag) (Z : Zx) (H : Hp) : List (Addr × List W) → Fp → Prop
  | nil : RepL K Z H [] []
  | cons {a xs ws ls G} : Reps K Z H xs ws → RepL K Z H ls G → RepL K Z H ((a, ws) :: ls) ((a, .lst xs) :: G)
mutual
/-- an owned thing, by its own objects (the footprint); what it holds is frozen in H -/
inductive RepT (K : PySem.W.Frag) (Z : Zx) (H : Hp) : V → T → Fp → Prop
  | fz {v w} : Rep K Z H v w → RepT K Z H v (.fz w) []
  | lst {p xs ws} : Reps K Z H xs ws → RepT K Z H (.ref p) (.lst ws) [(p, .lst xs)]
  | dK {p kvs ws} : RepK K Z H kvs ws → RepT K Z H (.ref p) (.dK ws) [(p, .dK kvs)]
  | dT {p kvs ws} : RepKT K Z H kvs ws → RepT K Z H (.ref p) (.dT ws) [(p, .dT kvs)]
  | ins {p c dx fs ts G} : Z.has c = true → fs.map (·.1) = (fldN c).take ts.length → RepTs K Z H (fs.map (·.2)) ts G → RepT K Z H (.ref p) (.ins c ts) ((p, .ins (Z.cls c) dx fs) :: G)
  | wo {v w ls G} : Rep K Z H v w → RepL K Z H ls G → RepT K Z H v (.wo w ls) G
inductive RepTs (K : PySem.W.Frag) (Z : Zx) (H : Hp) : List V → List T → Fp → Prop
  | nil : RepTs K Z H [] [] []
  | cons {v t vs ts G1 G2} : RepT K Z H v t G1 → RepTs K Z H vs ts G2 → RepTs K Z H (v :: vs) (t :: ts) (G1 ++ G2)
end
/-- the slots; pv: the def's arguments as they came in -/
inductive Sts (K : PySem.W.Frag) (Z : Zx) (H : Hp) : List V → L2.St → S → Fp → Prop
  | nil {pv} : Sts K Z H pv [] [] []
  | un {pv o σ st G} : Sts K Z H pv σ st G → Sts K Z H pv (o :: σ) (.un :: st) G
  | lo {pv v t σ st G1 G2} : RepT K Z H v t G1 → Sts K Z H pv σ st G2 → Sts K Z H pv (some v :: σ) (.lo t :: st) (G1 ++ G2)
  | mp {pv v k t σ st G1 G2} : pv[k]? = some v → RepT K Z H v t G1 → Sts K Z H pv σ st G2 → Sts K Z H pv (some v :: σ) (.mp k t :: st) (G1 ++ G2)
  | fr {pv f c q σ' pv' st' σ st G1 G2} : H c = some (LamX.CodeO c q) → Sts K Z H pv' σ' st' G1 → Sts K Z H pv σ st G2 → Sts K Z H pv (some (.ref f) :: σ) (.fr f c q σ' pv' st' :: st) (G1 ++ G2)
/-- F's word for a table of code objects that bear the name q -/
def tabO (q : Str) : HO := .xd [(q, .non), (q, .bl true), (q, .bl false)]
def tabQ : HO → Option Str
  | .xd [(q, .non), (_, .bl true), (_, .bl false)] => some q
  | _ => none
/-- the table at P: each code object that it tells is known, and bears the name q -/
def TabQ (H0 H : Hp) (P : Addr) (q : Str) : Prop := ∃ ps : Array Value, H P = some (.tbl ps) ∧ TriplesOk ps.toList ∧ ∀ (pos : Pos) (cv : Value), codeAmong pos ps.toList = some cv → ∃ c, cv = .ref c ∧ H0 c = some (LamX.CodeO c q)
theorem TabQ.up {H0 H H0' H' : Hp} {P : Addr} {q : Str} (t : TabQ H0 H P q) (e0 : Ex H0 H0') (e : ∀ o, H P = some o → H' P = some o) : TabQ H0' H' P q := by
  obtain ⟨ps, h1, h2, h3⟩ := t
  refine ⟨ps, e _ h1, h2, fun pos cv hc => ?_⟩
  obtain ⟨c, e1, e2⟩ := h3 pos cv hc
  exact ⟨c, e1, e0 _ _ e2⟩
/-- the world: H0 what is frozen, F the callers' own, G this def's own -/
structure Wd (H0 F : Hp) (G : Fp) (H : Hp) : Prop where
  ex : Ex H0 H
  fr : ∀ a o, F a = some o → tabQ o = none → H a = some o
  ow : ∀ q ∈ G, H q.1 = some q.2
  nd : (G.map (·.1)).Nodup
  d0 : ∀ q ∈ G, H0 q.1 = none
  dF : ∀ q ∈ G, F q.1 = none
  d0F : ∀ a o, H0 a = some o → F a = none
  tb : ∀ a o q, F a = some o → tabQ o = some q → TabQ H0 H a q
  tn : ∀ q ∈ G, tabQ q.2 = none
theorem Wd.fnone {H0 F H : Hp} {G : Fp} {p : Addr} (wd : Wd H0 F G H) (hp : H p = none) : F p = none := by
  cases q : F p with
  | none => rfl
  | some u =>
    cases z : tabQ u with
    | none => rw [wd.fr p u q z] at hp; cases hp
    | some t =>
      obtain ⟨ps, h, _⟩ := wd.tb p u t q z
      rw [h] at hp; cases hp
inductive RepR (K : PySem.W.Frag) (Z : Zx) (H : Hp) (σ : L2.St) : V → R → Prop
  | w {v w} : Rep K Z H v w → RepR K Z H σ v (.w w)
  | pk {v i} : σ[i]? = some (some v) → RepR K Z H σ v (.pk i)
/-- readable now: frozen, or an own object whose parts are frozen -/
inductive RepP (K : PySem.W.Frag) (Z : Zx) (H0 H : Hp) : V → W → Prop
  | fz {v w} : Rep K Z H0 v w → RepP K Z H0 H v w
  | lst {p xs ws} : H p = some (.lst xs) → Reps K Z H0 xs ws → RepP K Z H0 H (.ref p) (.lst ws)
  | dK {p kvs ws} : H p = some (.dK kvs) → RepK K Z H0 kvs ws → RepP K Z H0 H (.ref p) (.dK ws)
  | dT {p kvs ws} : H p = some (.dT kvs) → RepKT K Z H0 kvs ws → RepP K Z H0 H (.ref p) (.dT ws)
  | ins {p c dx fs ws} : Z.has c = true → H p = some (.ins (Z.cls c) dx fs) → fs.map (·.1) = fldN c → Reps K Z H0 (fs.map (·.2)) ws → RepP K Z H0 H (.ref p) (.ins c ws)
def RepX (K : PySem.W.Frag) (Z : Zx) (H0 H : Hp) (cls : Value) (dx : Option Addr) (x : XW) : Prop :=
  cls = .ref (Z.cls x.c) ∧ ((dx = none ∧ x.fs = []) ∨ ∃ d fs, dx = some d ∧ H0 d = some (.xd fs) ∧ fs.map (·.1) = fldN x.c ∧ Reps K Z H0 (fs.map (·.2)) x.fs)

/-! ### monotone -/
section
variable {K : PySem.W.Frag} {Z : Zx} {H H' : Hp}
mutual
theorem Rep.z0 : ∀ {v w}, Rep K Z H v w → Rep K Z.z0 H v w
  | _, _, .non => .non
  | _, _, .bl => .bl
  | _, _, .int => .int
  | _, _, .str => .str
  | _, _, .ty => .ty
  | _, _, .ob => .ob
  | _, _, .tup h r => .tup h (Reps.z0 r)
  | _, _, .lst h r => .lst h (Reps.z0 r)
  | _, _, .scr h => .scr h
  | _, _, .dK h r => .dK h (RepK.z0 r)
  | _, _, .dT h r => .dT h (RepKT.z0 r)
  | _, _, .dF h r => .dF h (RepK.z0 r)
  | _, _, .tp h d r => .tp h d (Reps.z0 r)
  | _, _, .ins a b c r => .ins (Z := Z.z0) a b c (Reps.z0 r)
  | _, _, .xc0 h => .xc0 (Z := Z.z0) h
  | _, _, .xcd a b c r => .xcd (Z := Z.z0) a b c (Reps.z0 r)
theorem Reps.z0 : ∀ {v w}, Reps K Z H v w → Reps K Z.z0 H v w
  | _, _, .nil => .nil
  | _, _, .cons h r => .cons (Rep.z0 h) (Reps.z0 r)
theorem RepK.z0 : ∀ {v w}, RepK K Z H v w → RepK K Z.z0 H v w
  | _, _, .nil => .nil
  | _, _, .cons h r => .cons (Rep.z0 h) (RepK.z0 r)
theorem RepKT.z0 : ∀ {v w}, RepKT K Z H v w → RepKT K Z.z0 H v w
  | _, _, .nil => .nil
  | _, _, .cons h r => .cons (Rep.z0 h) (RepKT.z0 r)
end
theorem rd_mono (e : Ex H H') {a : Addr} {u : HO} (h : Rd H a u) : Rd H' a u := Evl.ex_rd e h
mutual
theorem Rep.mono (e : Ex H H') : ∀ {v w}, Rep K Z H v w → Rep K Z H' v w
  | _, _, .non => .non
  | _, _, .bl => .bl
  | _, _, .int => .int
  | _, _, .str => .str
  | _, _, .ty => .ty
  | _, _, .ob => .ob
  | _, _, .tup h r => .tup (Evl.ex_t e h) (Reps.mono e r)
  | _, _, .lst h r => .lst (e _ _ h) (Reps.mono e r)
  | _, _, .scr h => .scr (Evl.ex_l e h)
  | _, _, .dK h r => .dK (Evl.ex_rd e h) (RepK.mono e r)
  | _, _, .dT h r => .dT (Evl.ex_rd e h) (RepKT.mono e r)
  | _, _, .dF h r => .dF (e _ _ h) (RepK.mono e r)
  | _, _, .tp h d r => .tp (e _ _ h) d (Reps.mono e r)
  | _, _, .ins z h n r => .ins z (e _ _ h) n (Reps.mono e r)
  | _, _, .xc0 h => .xc0 (e _ _ h)
  | _, _, .xcd h h2 n r => .xcd (e _ _ h) (e _ _ h2) n (Reps.mono e r)
theorem Reps.mono (e : Ex H H') : ∀ {v w}, Reps K Z H v w → Reps K Z H' v w
  | _, _, .nil => .nil
  | _, _, .cons h r => .cons (Rep.mono e h) (Reps.mono e r)
theorem RepK.mono (e : Ex H H') : ∀ {v w}, RepK K Z H v w → RepK K Z H' v w
  | _, _, .nil => .nil
  | _, _, .cons h r => .cons (Rep.mono e h) (RepK.mono e r)
theorem RepKT.mono (e : Ex H H') : ∀ {v w}, RepKT K Z H v w → RepKT K Z H' v w
  | _, _, .nil => .nil
  | _, _, .cons h r => .cons (Rep.mono e h) (RepKT.mono e r)
end
theorem RepL.mono (e : Ex H H') : ∀ {ls G}, RepL K Z H ls G → RepL K Z H' ls G
  | _, _, .nil => .nil
  | _, _, .cons h r => .cons (h.mono e) (RepL.mono e r)
theorem RepL.tn : ∀ {ls : List (Addr × List W)} {G : Fp}, RepL K Z H ls G → ∀ q ∈ G, tabQ q.2 = none
  | _, _, .nil => fun _ h => (nomatch h)
  | _, _, .cons _ r => fun q h => by
    rcases List.mem_cons.mp h with e | h
    · rw [e]; rfl
    · exact RepL.tn r q h
mutual
theorem RepT.mono (e : Ex H H') : ∀ {v t G}, RepT K Z H v t G → RepT K Z H' v t G
  | _, _, _, .fz h => .fz (h.mono e)
  | _, _, _, .lst h => .lst (h.mono e)
  | _, _, _, .dK h => .dK (h.mono e)
  | _, _, _, .dT h => .dT (h.mono e)
  | _, _, _, .ins z n h => .ins z n (RepTs.mono e h)
  | _, _, _, .wo h r => .wo (h.mono e) (r.mono e)
theorem RepTs.mono (e : Ex H H') : ∀ {v t G}, RepTs K Z H v t G → RepTs K Z H' v t G
  | _, _, _, .nil => .nil
  | _, _, _, .cons h r => .cons (RepT.mono e h) (RepTs.mono e r)
end
mutual
theorem RepT.tn : ∀ {v : V} {t : T} {G : Fp}, RepT K Z H v t G → ∀ q ∈ G, tabQ q.2 = none
  | _, _, _, .fz _ => fun _ h => (nomatch h)
  | _, _, _, .lst _ => fun q h => by rw [List.mem_singleton.mp h]; rfl
  | _, _, _, .dK _ => fun q h => by rw [List.mem_singleton.mp h]; rfl
  | _, _, _, .dT _ => fun q h => by rw [List.mem_singleton.mp h]; rfl
  | _, _, _, .ins _ _ r => fun q h => by
    rcases List.mem_cons.mp h with e | h
    · rw [e]; rfl
    · exact RepTs.tn r q h
  | _, _, _, .wo _ r => r.tn
theorem RepTs.tn : ∀ {v : List V} {t : List T} {G : Fp}, RepTs K Z H v t G → ∀ q ∈ G, tabQ q.2 = none
  | _, _, _, .nil => fun _ h => (nomatch h)
  | _, _, _, .cons h r => fun q hq => (List.mem_append.mp hq).elim (RepT.tn h q) (RepTs.tn r q)
end
theorem Sts.mono (e : Ex H H') : ∀ {pv : List V} {σ st G}, Sts K Z H pv σ st G → Sts K Z H' pv σ st G
  | _, _, _, _, .nil => .nil
  | _, _, _, _, .un h => .un (Sts.mono e h)
  | _, _, _, _, .lo r h => .lo (r.mono e) (Sts.mono e h)
  | _, _, _, _, .mp p r h => .mp p (r.mono e) (Sts.mono e h)
  | _, _, _, _, .fr z r h => .fr (e _ _ z) (Sts.mono e r) (Sts.mono e h)
theorem RepR.mono {σ : L2.St} (e : Ex H H') {v : V} {r : R} (h : RepR K Z H σ v r) : RepR K Z H' σ v r := by
  cases h with
  | w h => exact .w (h.mono e)
  | pk h => exact .pk h
theorem Reps.length : ∀ {vs ws}, Reps K Z H vs ws → vs.length = ws.length
  | _, _, .nil => rfl
  | _, _, .cons _ r => by rw [List.length_cons, List.length_cons, Reps.length r]
theorem RepK.length : ∀ {vs ws}, RepK K Z H vs ws → vs.length = ws.length
  | _, _, .nil => rfl
  | _, _, .cons _ r => by rw [List.length_cons, List.length_cons, RepK.length r]
theorem RepKT.length : ∀ {vs ws}, RepKT K Z H vs ws → vs.length = ws.length
  | _, _, .nil => rfl
  | _, _, .cons _ r => by rw [List.length_cons, List.length_cons, RepKT.length r]
theorem RepTs.length : ∀ {vs ts G}, RepTs K Z H vs ts G → vs.length = ts.length
  | _, _, _, .nil => rfl
  | _, _, _, .cons _ r => by rw [List.length_cons, List.length_cons, RepTs.length r]
theorem Reps.get : ∀ {vs ws} {i : Nat} {w}, Reps K Z H vs ws → ws[i]? = some w → ∃ v, vs[i]? = some v ∧ Rep K Z H v w
  | _, _, i, _, .nil, e => by simp at e
  | _, _, 0, _, .cons h r, e => by simp at e; subst e; exact ⟨_, rfl, h⟩
  | _, _, i + 1, w, .cons h r, e => by
    obtain ⟨v, h1, h2⟩ := Reps.get (i := i) (w := w) r (by simpa using e)
    exact ⟨v, by simpa using h1, h2⟩
theorem Reps.getV : ∀ {vs ws} {i : Nat} {v}, Reps K Z H vs ws → vs[i]? = some v → ∃ w, ws[i]? = some w ∧ Rep K Z H v w
  | _, _, i, _, .nil, e => by simp at e
  | _, _, 0, _, .cons h r, e => by simp at e; subst e; exact ⟨_, rfl, h⟩
  | _, _, i + 1, w, .cons h r, e => by
    obtain ⟨v, h1, h2⟩ := Reps.getV (i := i) (v := w) r (by simpa using e)
    exact ⟨v, by simpa using h1, h2⟩
theorem Reps.append : ∀ {xs ys ws us}, Reps K Z H xs ws → Reps K Z H ys us → Reps K Z H (xs ++ ys) (ws ++ us)
  | _, _, _, _, .nil, s => s
  | _, _, _, _, .cons r t, s => .cons r (Reps.append t s)
theorem Reps.one {v : V} {w : W} (h : Rep K Z H v w) : Reps K Z H [v] [w] := .cons h .nil
theorem Reps.take (n : Nat) : ∀ {xs ws}, Reps K Z H xs ws → Reps K Z H (xs.take n) (ws.take n) := by
  induction n with
  | zero => intro xs ws _; simp only [List.take_zero]; exact .nil
  | succ n ih => intro xs ws h; cases h with
    | nil => exact .nil
    | cons r t => exact .cons r (ih t)
theorem Reps.drop (n : Nat) : ∀ {xs ws}, Reps K Z H xs ws → Reps K Z H (xs.drop n) (ws.drop n) := by
  induction n with
  | zero => intro xs ws h; exact h
  | succ n ih => intro xs ws h; cases h with
    | nil => exact .nil
    | cons r t => exact ih t
theorem Reps.set {v : V} {w : W} (r : Rep K Z H v w) : ∀ {xs ws} (i : Nat), Reps K Z H xs ws → Reps K Z H (xs.set i v) (ws.set i w)
  | _, _, _, .nil => .nil
  | _, _, 0, .cons _ t => .cons r t
  | _, _, i + 1, .cons q t => .cons q (Reps.set r i t)
/-- a list of flat things -/
theorem Reps.map {α : Type} (f : α → V) (g : α → W) (h : ∀ a, Rep K Z H (f a) (g a)) : ∀ l : List α, Reps K Z H (l.map f) (l.map g)
  | [] => .nil
  | a :: l => .cons (h a) (Reps.map f g h l)
theorem Reps.ints_of : ∀ {ns : List Int} {xs}, Reps K Z H xs (ns.map W.int) → xs = ns.map V.int
  | [], _, h => by cases h; rfl
  | n :: ns, _, h => by cases h with | cons r t => cases r; rw [Reps.ints_of t, List.map_cons]
end

/-! ### slots read and written -/
def at' : S → Nat → Sl
  | [], _ => .un
  | s :: _, 0 => s
  | _ :: l, n + 1 => at' l n
def put : S → Nat → Sl → S
  | [], _, _ => []
  | _ :: l, 0, x => x :: l
  | s :: l, n + 1, x => s :: put l n x
def T.fzs : List T → Option (List W)
  | [] => some []
  | .fz w :: ts => (T.fzs ts).map (w :: ·)
  | _ :: _ => none
def T.pk : T → Option W
  | .fz w => some w
  | .lst ws => some (.lst ws)
  | .dK k => some (.dK k)
  | .dT k => some (.dT k)
  | .ins _ _ => none
  | .wo w _ => some w
def Sl.pk : Sl → Option W
  | .un => none
  | .lo t => t.pk
  | .mp _ t => t.pk
  | .fr _ _ _ _ _ _ => none
def R.val (st : S) : R → Option W
  | .w x => some x
  | .pk i => (at' st i).pk
section
variable {K : PySem.W.Frag} {Z : Zx} {H0 H F : Hp} {pv : List V}
theorem Sts.length : ∀ {σ st G}, Sts K Z H0 pv σ st G → σ.length = st.length
  | _, _, _, .nil => rfl
  | _, _, _, .un h => by rw [List.length_cons, List.length_cons, Sts.length h]
  | _, _, _, .lo _ h => by rw [List.length_cons, List.length_cons, Sts.length h]
  | _, _, _, .mp _ _ h => by rw [List.length_cons, List.length_cons, Sts.length h]
  | _, _, _, .fr _ _ h => by rw [List.length_cons, List.length_cons, Sts.length h]
theorem Sts.cast {σ st G G'} (h : Sts K Z H0 pv σ st G) (e : G = G') : Sts K Z H0 pv σ st G' := e ▸ h
/-- a slot's thing, taken out of the footprint and put back -/
theorem Sts.lo_at : ∀ {σ st G} {i : Nat} {t : T}, Sts K Z H0 pv σ st G → at' st i = .lo t →
    ∃ v G1 Ga Gb, σ[i]? = some (some v) ∧ RepT K Z H0 v t G1 ∧ G = Ga ++ G1 ++ Gb ∧
      (∀ H0' v' t' G1', Ex H0 H0' → RepT K Z H0' v' t' G1' → Sts K Z H0' pv (σ.set i (some v')) (put st i (.lo t')) (Ga ++ G1' ++ Gb)) ∧ Sts K Z H0 pv σ (put st i .un) (Ga ++ Gb)
  | _, _, _, i, _, .nil, e => by cases e
  | _, _, _, 0, _, .un _, e => by cases e
  | _, _, _, 0, _, .mp _ _ _, e => by cases e
  | _, _, _, 0, _, .fr _ _ _, e => by cases e
  | _, _, _, 0, _, .lo (G1 := G1) (G2 := G2) r h, e => by
    cases e
    exact ⟨_, G1, [], G2, rfl, r, rfl, fun H0' v' t' G1' ex r' => .lo r' (h.mono ex), .un h⟩
  | _, _, _, i + 1, _, .un h, e => by
    obtain ⟨v, G1, Ga, Gb, h1, h2, h3, h4, h5⟩ := Sts.lo_at (i := i) h e
    exact ⟨v, G1, Ga, Gb, h1, h2, h3, fun H0' v' t' G1' ex r' => .un (h4 H0' v' t' G1' ex r'), .un h5⟩
  | _, _, _, i + 1, _, .lo (G1 := Gx) r h, e => by
    obtain ⟨v, G1, Ga, Gb, h1, h2, h3, h4, h5⟩ := Sts.lo_at (i := i) h e
    refine ⟨v, G1, Gx ++ Ga, Gb, h1, h2, by rw [h3]; simp only [List.append_assoc], fun H0' v' t' G1' ex r' => ?_, ?_⟩
    · exact Sts.cast (Sts.lo (r.mono ex) (h4 H0' v' t' G1' ex r')) (by simp only [List.append_assoc])
    · exact Sts.cast (Sts.lo r h5) (by simp only [List.append_assoc])
  | _, _, _, i + 1, _, .mp (G1 := Gx) p r h, e => by
    obtain ⟨v, G1, Ga, Gb, h1, h2, h3, h4, h5⟩ := Sts.lo_at (i := i) h e
    refine ⟨v, G1, Gx ++ Ga, Gb, h1, h2, by rw [h3]; simp only [List.append_assoc], fun H0' v' t' G1' ex r' => ?_, ?_⟩
    · exact Sts.cast (Sts.mp p (r.mono ex) (h4 H0' v' t' G1' ex r')) (by simp only [List.append_assoc])
    · exact Sts.cast (Sts.mp p r h5) (by simp only [List.append_assoc])
  | _, _, _, i + 1, _, .fr (G1 := Gx) z r h, e => by
    obtain ⟨v, G1, Ga, Gb, h1, h2, h3, h4, h5⟩ := Sts.lo_at (i := i) h e
    refine ⟨v, G1, Gx ++ Ga, Gb, h1, h2, by rw [h3]; simp only [List.append_assoc], fun H0' v' t' G1' ex r' => ?_, ?_⟩
    · exact Sts.cast (Sts.fr (ex _ _ z) (r.mono ex) (h4 H0' v' t' G1' ex r')) (by simp only [List.append_assoc])
    · exact Sts.cast (Sts.fr z r h5) (by simp only [List.append_assoc])
theorem Sts.mp_at : ∀ {σ st G} {i k : Nat} {t : T}, Sts K Z H0 pv σ st G → at' st i = .mp k t →
    ∃ v G1 Ga Gb, σ[i]? = some (some v) ∧ pv[k]? = some v ∧ RepT K Z H0 v t G1 ∧ G = Ga ++ G1 ++ Gb ∧
      (∀ H0' t' G1', Ex H0 H0' → RepT K Z H0' v t' G1' → Sts K Z H0' pv σ (put st i (.mp k t')) (Ga ++ G1' ++ Gb))
  | _, _, _, i, _, _, .nil, e => by cases e
  | _, _, _, 0, _, _, .un _, e => by cases e
  | _, _, _, 0, _, _, .lo _ _, e => by cases e
  | _, _, _, 0, _, _, .fr _ _ _, e => by cases e
  | _, _, _, 0, _, _, .mp (G1 := G1) (G2 := G2) p r h, e => by
    cases e
    exact ⟨_, G1, [], G2, rfl, p, r, rfl, fun H0' t' G1' ex r' => .mp p r' (h.mono ex)⟩
  | _, _, _, i + 1, _, _, .un h, e => by
    obtain ⟨v, G1, Ga, Gb, h1, hp, h2, h3, h4⟩ := Sts.mp_at (i := i) h e
    exact ⟨v, G1, Ga, Gb, h1, hp, h2, h3, fun H0' t' G1' ex r' => .un (h4 H0' t' G1' ex r')⟩
  | _, _, _, i + 1, _, _, .lo (G1 := Gx) r h, e => by
    obtain ⟨v, G1, Ga, Gb, h1, hp, h2, h3, h4⟩ := Sts.mp_at (i := i) h e
    refine ⟨v, G1, Gx ++ Ga, Gb, h1, hp, h2, by rw [h3]; simp only [List.append_assoc], fun H0' t' G1' ex r' => ?_⟩
    exact Sts.cast (Sts.lo (r.mono ex) (h4 H0' t' G1' ex r')) (by simp only [List.append_assoc])
  | _, _, _, i + 1, _, _, .mp (G1 := Gx) p r h, e => by
    obtain ⟨v, G1, Ga, Gb, h1, hp, h2, h3, h4⟩ := Sts.mp_at (i := i) h e
    refine ⟨v, G1, Gx ++ Ga, Gb, h1, hp, h2, by rw [h3]; simp only [List.append_assoc], fun H0' t' G1' ex r' => ?_⟩
    exact Sts.cast (Sts.mp p (r.mono ex) (h4 H0' t' G1' ex r')) (by simp only [List.append_assoc])
  | _, _, _, i + 1, _, _, .fr (G1 := Gx) z r h, e => by
    obtain ⟨v, G1, Ga, Gb, h1, hp, h2, h3, h4⟩ := Sts.mp_at (i := i) h e
    refine ⟨v, G1, Gx ++ Ga, Gb, h1, hp, h2, by rw [h3]; simp only [List.append_assoc], fun H0' t' G1' ex r' => ?_⟩
    exact Sts.cast (Sts.fr (ex _ _ z) (r.mono ex) (h4 H0' t' G1' ex r')) (by simp only [List.append_assoc])
/-- a caller that waits, taken out of the footprint and put back -/
theorem Sts.fr_at : ∀ {σ st G} {i : Nat} {f c : Addr} {q : Str} {σ' : L2.St} {pv' : List V} {st' : S}, Sts K Z H0 pv σ st G → at' st i = .fr f c q σ' pv' st' →
    ∃ G1 Ga Gb, σ[i]? = some (some (.ref f)) ∧ H0 c = some (LamX.CodeO c q) ∧ Sts K Z H0 pv' σ' st' G1 ∧ G = Ga ++ G1 ++ Gb ∧
      (∀ H0' st2 G1', Ex H0 H0' → Sts K Z H0' pv' σ' st2 G1' → Sts K Z H0' pv σ (put st i (.fr f c q σ' pv' st2)) (Ga ++ G1' ++ Gb))
  | _, _, _, i, _, _, _, _, _, _, .nil, e => by cases e
  | _, _, _, 0, _, _, _, _, _, _, .un _, e => by cases e
  | _, _, _, 0, _, _, _, _, _, _, .lo _ _, e => by cases e
  | _, _, _, 0, _, _, _, _, _, _, .mp _ _ _, e => by cases e
  | _, _, _, 0, _, _, _, _, _, _, .fr (G1 := G1) (G2 := G2) z r h, e => by
    cases e
    exact ⟨G1, [], G2, rfl, z, r, rfl, fun H0' st2 G1' ex r' => .fr (ex _ _ z) r' (h.mono ex)⟩
  | _, _, _, i + 1, _, _, _, _, _, _, .un h, e => by
    obtain ⟨G1, Ga, Gb, hs, hc, h1, h3, h4⟩ := Sts.fr_at (i := i) h e
    exact ⟨G1, Ga, Gb, hs, hc, h1, h3, fun H0' t' G1' ex r' => .un (h4 H0' t' G1' ex r')⟩
  | _, _, _, i + 1, _, _, _, _, _, _, .lo (G1 := Gx) r h, e => by
    obtain ⟨G1, Ga, Gb, hs, hc, h1, h3, h4⟩ := Sts.fr_at (i := i) h e
    refine ⟨G1, Gx ++ Ga, Gb, hs, hc, h1, by rw [h3]; simp only [List.append_assoc], fun H0' t' G1' ex r' => ?_⟩
    exact Sts.cast (Sts.lo (r.mono ex) (h4 H0' t' G1' ex r')) (by simp only [List.append_assoc])
  | _, _, _, i + 1, _, _, _, _, _, _, .mp (G1 := Gx) p r h, e => by
    obtain ⟨G1, Ga, Gb, hs, hc, h1, h3, h4⟩ := Sts.fr_at (i := i) h e
    refine ⟨G1, Gx ++ Ga, Gb, hs, hc, h1, by rw [h3]; simp only [List.append_assoc], fun H0' t' G1' ex r' => ?_⟩
    exact Sts.cast (Sts.mp p (r.mono ex) (h4 H0' t' G1' ex r')) (by simp only [List.append_assoc])
  | _, _, _, i + 1, _, _, _, _, _, _, .fr (G1 := Gx) z r h, e => by
    obtain ⟨G1, Ga, Gb, hs, hc, h1, h3, h4⟩ := Sts.fr_at (i := i) h e
    refine ⟨G1, Gx ++ Ga, Gb, hs, hc, h1, by rw [h3]; simp only [List.append_assoc], fun H0' t' G1' ex r' => ?_⟩
    exact Sts.cast (Sts.fr (ex _ _ z) (r.mono ex) (h4 H0' t' G1' ex r')) (by simp only [List.append_assoc])
/-- a slot that isn't a handed-in owned one is stored anew -/
theorem Sts.store : ∀ {σ st G} (i : Nat), Sts K Z H0 pv σ st G → i < st.length → (∀ k t, at' st i ≠ .mp k t) →
    ∃ Ga Gx Gb, G = Ga ++ Gx ++ Gb ∧ ∀ H0' v t Gv, Ex H0 H0' → RepT K Z H0' v t Gv → Sts K Z H0' pv (σ.set i (some v)) (put st i (.lo t)) (Ga ++ Gv ++ Gb)
  | _, _, _, i, .nil, hi, e => absurd hi (Nat.not_lt_zero _)
  | _, _, _, 0, .un (G := G) h, _, e => ⟨[], [], G, rfl, fun H0' v t Gv ex r => .lo r (h.mono ex)⟩
  | _, _, _, 0, .lo (G1 := G1) (G2 := G2) _ h, _, e => ⟨[], G1, G2, rfl, fun H0' v t Gv ex r => .lo r (h.mono ex)⟩
  | _, _, _, 0, .mp _ _ h, _, e => absurd rfl (e _ _)
  | _, _, _, 0, .fr (G1 := G1) (G2 := G2) _ _ h, _, e => ⟨[], G1, G2, rfl, fun H0' v t Gv ex r => .lo r (h.mono ex)⟩
  | _, _, _, i + 1, .un h, hi, e => by
    obtain ⟨Ga, Gx, Gb, h1, h2⟩ := Sts.store i h (Nat.lt_of_succ_lt_succ hi) e
    exact ⟨Ga, Gx, Gb, h1, fun H0' v t Gv ex r => .un (h2 H0' v t Gv ex r)⟩
  | _, _, _, i + 1, .lo (G1 := Gy) q h, hi, e => by
    obtain ⟨Ga, Gx, Gb, h1, h2⟩ := Sts.store i h (Nat.lt_of_succ_lt_succ hi) e
    refine ⟨Gy ++ Ga, Gx, Gb, by rw [h1]; simp only [List.append_assoc], fun H0' v t Gv ex r => ?_⟩
    exact Sts.cast (Sts.lo (q.mono ex) (h2 H0' v t Gv ex r)) (by simp only [List.append_assoc])
  | _, _, _, i + 1, .mp (G1 := Gy) p q h, hi, e => by
    obtain ⟨Ga, Gx, Gb, h1, h2⟩ := Sts.store i h (Nat.lt_of_succ_lt_succ hi) e
    refine ⟨Gy ++ Ga, Gx, Gb, by rw [h1]; simp only [List.append_assoc], fun H0' v t Gv ex r => ?_⟩
    exact Sts.cast (Sts.mp p (q.mono ex) (h2 H0' v t Gv ex r)) (by simp only [List.append_assoc])
  | _, _, _, i + 1, .fr (G1 := Gy) z q h, hi, e => by
    obtain ⟨Ga, Gx, Gb, h1, h2⟩ := Sts.store i h (Nat.lt_of_succ_lt_succ hi) e
    refine ⟨Gy ++ Ga, Gx, Gb, by rw [h1]; simp only [List.append_assoc], fun H0' v t Gv ex r => ?_⟩
    exact Sts.cast (Sts.fr (ex _ _ z) (q.mono ex) (h2 H0' v t Gv ex r)) (by simp only [List.append_assoc])
theorem RepT.peek {v : V} {t : T} {G : Fp} {w : W} (r : RepT K Z H0 v t G) (ow : ∀ q ∈ G, H q.1 = some q.2) (e : t.pk = some w) : RepP K Z H0 H v w := by
  cases r with
  | fz r => cases e; exact .fz r
  | lst r => cases e; exact .lst (ow (_, _) (List.mem_singleton.mpr rfl)) r
  | dK r => cases e; exact .dK (ow (_, _) (List.mem_singleton.mpr rfl)) r
  | dT r => cases e; exact .dT (ow (_, _) (List.mem_singleton.mpr rfl)) r
  | ins _ n r => cases e
  | wo r _ => cases e; exact .fz r
/-- an evaluated thing may be read now -/
theorem RepR.peek {σ : L2.St} {st : S} {G : Fp} {v : V} {r : R} {w : W} (h : RepR K Z H0 σ v r) (ss : Sts K Z H0 pv σ st G) (wd : Wd H0 F G H) (e : r.val st = some w) : RepP K Z H0 H v w := by
  cases h with
  | w h => cases e; exact .fz h
  | @pk i h =>
    have e : (at' st i).pk = some w := e
    cases q : at' st i with
    | un => rw [q] at e; cases e
    | lo t =>
      rw [q] at e
      obtain ⟨v', G1, Ga, Gb, h1, h2, h3, _⟩ := ss.lo_at q
      rw [h] at h1; cases h1
      exact h2.peek (fun p hp => wd.ow p (by rw [h3]; simp [hp])) e
    | mp k t =>
      rw [q] at e
      obtain ⟨v', G1, Ga, Gb, h1, _, h2, h3, _⟩ := ss.mp_at q
      rw [h] at h1; cases h1
      exact h2.peek (fun p hp => wd.ow p (by rw [h3]; simp [hp])) e
    | fr _ _ _ _ _ _ => rw [q] at e; cases e
theorem RepP.mono {H0' H' : Hp} {v : V} {w : W} (e : Ex H0 H0') (e' : Ex H H') (h : RepP K Z H0 H v w) : RepP K Z H0' H' v w := by
  cases h with
  | fz h => exact .fz (h.mono e)
  | lst h r => exact .lst (e' _ _ h) (r.mono e)
  | dK h r => exact .dK (e' _ _ h) (r.mono e)
  | dT h r => exact .dT (e' _ _ h) (r.mono e)
  | ins z h n r => exact .ins z (e' _ _ h) n (r.mono e)
end

/-! ### worlds that grow -/
/-- new frozen things stand at places that were free -/
structure Gr (H0 H H0' H' : Hp) : Prop where
  e0 : Ex H0 H0'
  e : Ex H H'
  sub : Ex H0' H'
  new : ∀ a o, H0' a = some o → H0 a = none → H a = none
theorem Gr.refl {H0 H : Hp} (e : Ex H0 H) : Gr H0 H H0 H := ⟨Ex.refl _, Ex.refl _, e, fun a o h n => by rw [n] at h; cases h⟩
theorem Gr.one {H0 H : Hp} {p : Addr} {o : HO} (e : Ex H0 H) (h : H p = none) : Gr H0 H (upd H0 p o) (upd H p o) := by
  have h0 : H0 p = none := by
    cases q : H0 p with
    | none => rfl
    | some u => rw [e p u q] at h; cases h
  refine ⟨.new h0, .new h, fun a u q => ?_, fun a u q n => ?_⟩
  · by_cases z : a = p
    · subst z; rw [upd_same] at q ⊢; exact q
    · rw [upd_ne z] at q ⊢; exact e a u q
  · by_cases z : a = p
    · subst z; exact h
    · rw [upd_ne z, n] at q; cases q
theorem Wd.grow {H0 F H H0' H' : Hp} {G : Fp} (wd : Wd H0 F G H) (g : Gr H0 H H0' H') : Wd H0' F G H' where
  ex := g.sub
  fr := fun a o h n => g.e _ _ (wd.fr a o h n)
  tb := fun a o q h n => (wd.tb a o q h n).up g.e0 (g.e a)
  tn := wd.tn
  ow := fun q hq => g.e _ _ (wd.ow q hq)
  nd := wd.nd
  d0 := fun q hq => by
    cases z : H0' q.1 with
    | none => rfl
    | some u => have := g.new _ _ z (wd.d0 q hq); rw [wd.ow q hq] at this; cases this
  dF := wd.dF
  d0F := fun a o h => by
    cases z : H0 a with
    | some u => exact wd.d0F a u z
    | none =>
      have n := g.new a o h z
      exact wd.fnone n
/-- a part of the footprint forgotten -/
theorem Wd.less {H0 F H : Hp} {Ga Gx Gb : Fp} (wd : Wd H0 F (Ga ++ Gx ++ Gb) H) : Wd H0 F (Ga ++ Gb) H := by
  have sub : ∀ q ∈ Ga ++ Gb, q ∈ Ga ++ Gx ++ Gb := fun q hq => by
    rcases List.mem_append.mp hq with h | h
    · simp [h]
    · simp [h]
  refine ⟨wd.ex, wd.fr, fun q hq => wd.ow q (sub q hq), ?_, fun q hq => wd.d0 q (sub q hq), fun q hq => wd.dF q (sub q hq), wd.d0F, wd.tb, fun q hq => wd.tn q (sub q hq)⟩
  have s : (Ga ++ Gb).Sublist (Ga ++ Gx ++ Gb) := by
    rw [List.append_assoc]
    exact List.Sublist.append (List.Sublist.refl _) (List.sublist_append_right _ _)
  exact wd.nd.sublist (s.map _)
/-- a new own object -/
theorem Wd.own {H0 F H : Hp} {Ga Gb : Fp} {p : Addr} {o : HO} (wd : Wd H0 F (Ga ++ Gb) H) (hp : H p = none) (ho : tabQ o = none := by rfl) : Wd H0 F (Ga ++ [(p, o)] ++ Gb) (upd H p o) := by
  have ne : ∀ q ∈ Ga ++ Gb, q.1 ≠ p := fun q hq z => by have := wd.ow q hq; rw [z, hp] at this; cases this
  have mem : ∀ q ∈ Ga ++ [(p, o)] ++ Gb, q = (p, o) ∨ q ∈ Ga ++ Gb := fun q hq => by
    simp only [List.mem_append, List.mem_singleton] at hq ⊢
    rcases hq with (h | h) | h
    · exact .inr (.inl h)
    · exact .inl h
    · exact .inr (.inr h)
  have f0 : H0 p = none := by
    cases q : H0 p with
    | none => rfl
    | some u => rw [wd.ex p u q] at hp; cases hp
  have fF : F p = none := wd.fnone hp
  have nw : Ex H (upd H p o) := .new hp
  refine ⟨wd.ex.trans nw, fun a u h n => nw a u (wd.fr a u h n), fun q hq => ?_, ?_, fun q hq => ?_, fun q hq => ?_, wd.d0F, fun a u q h n => (wd.tb a u q h n).up (Ex.refl _) (nw a), fun q hq => ?_⟩
  · rcases mem q hq with rfl | h
    · exact upd_same
    · rw [upd_ne (ne q h)]; exact wd.ow q h
  · have nd := wd.nd
    rw [List.map_append] at nd
    rw [List.map_append, List.map_append, List.append_assoc, List.map_singleton]
    have perm : (Ga.map (·.1) ++ ([p] ++ Gb.map (·.1))).Perm (p :: (Ga.map (·.1) ++ Gb.map (·.1))) := List.perm_middle
    refine (perm.nodup_iff).mpr (List.nodup_cons.mpr ⟨fun z => ?_, nd⟩)
    rw [← List.map_append] at z
    obtain ⟨q, hq, e⟩ := List.mem_map.mp z
    exact ne q hq e
  · rcases mem q hq with rfl | h
    · exact f0
    · exact wd.d0 q h
  · rcases mem q hq with rfl | h
    · exact fF
    · exact wd.dF q h
  · rcases mem q hq with rfl | h
    · exact ho
    · exact wd.tn q h
/-- an own object changed -/
theorem Wd.write {H0 F H : Hp} {Ga Gb : Fp} {p : Addr} {o o' : HO} (wd : Wd H0 F (Ga ++ [(p, o)] ++ Gb) H) (ho : tabQ o' = none := by rfl) : Wd H0 F (Ga ++ [(p, o')] ++ Gb) (upd H p o') := by
  have key : (Ga ++ [(p, o')] ++ Gb).map (·.1) = (Ga ++ [(p, o)] ++ Gb).map (·.1) := by simp
  have hp : H p = some o := wd.ow (p, o) (by simp)
  have h0 : H0 p = none := wd.d0 (p, o) (by simp)
  have hF : F p = none := wd.dF (p, o) (by simp)
  have nd := wd.nd
  have ne : ∀ q ∈ Ga ++ Gb, q.1 ≠ p := fun q hq z => by
    rw [List.map_append, List.map_append, List.append_assoc, List.map_singleton] at nd
    have perm : (Ga.map (·.1) ++ ([p] ++ Gb.map (·.1))).Perm (p :: (Ga.map (·.1) ++ Gb.map (·.1))) := List.perm_middle
    have := (List.nodup_cons.mp (perm.nodup_iff.mp nd)).1
    rw [← List.map_append] at this
    exact this (List.mem_map.mpr ⟨q, hq, z⟩)
  have mem : ∀ q ∈ Ga ++ [(p, o')] ++ Gb, q = (p, o') ∨ q ∈ Ga ++ Gb := fun q hq => by
    simp only [List.mem_append, List.mem_singleton] at hq ⊢
    rcases hq with (h | h) | h
    · exact .inr (.inl h)
    · exact .inl h
    · exact .inr (.inr h)
  have sub : ∀ q ∈ Ga ++ Gb, q ∈ Ga ++ [(p, o)] ++ Gb := fun q hq => by
    rcases List.mem_append.mp hq with h | h
    · simp [h]
    · simp [h]
  have neF : ∀ a u, F a = some u → a ≠ p := fun a u e z => by rw [z, hF] at e; cases e
  refine ⟨fun a u e => ?_, fun a u e n => ?_, fun q hq => ?_, by rw [key]; exact nd, fun q hq => ?_, fun q hq => ?_, wd.d0F, fun a u q e n => (wd.tb a u q e n).up (Ex.refl _) fun v hv => by rw [upd_ne (neF a u e)]; exact hv, fun q hq => ?_⟩
  · rw [upd_ne (fun z => by rw [z, h0] at e; cases e)]; exact wd.ex a u e
  · rw [upd_ne (neF a u e)]; exact wd.fr a u e n
  · rcases mem q hq with rfl | h
    · exact upd_same
    · rw [upd_ne (ne q h)]; exact wd.ow q (sub q h)
  · rcases mem q hq with rfl | h
    · exact h0
    · exact wd.d0 q (sub q h)
  · rcases mem q hq with rfl | h
    · exact hF
    · exact wd.dF q (sub q h)
  · rcases mem q hq with rfl | h
    · exact ho
    · exact wd.tn q (sub q h)

/-! ### readings on data -/
abbrev KX := XW → S → Prop
abbrev DE := S → (R → S → Prop) → KX → Prop
structure DEnds where
  nx : S → Prop
  rt : T → S → Prop
  bk : S → Prop := fun _ => False
  ct : S → Prop := fun _ => False
  ex : KX := fun _ _ => False
abbrev DS := DEnds → S → Prop

/-- what is wished of an error, the slots told -/
abbrev XS := Value → Option Addr → L2.St → Hp → Prop
abbrev E0s : XS := fun _ _ _ _ => False
section
variable (K : PySem.W.Frag) (Z : Zx) (E : XS)
def Acc (F : Hp) (pv : List V) (σ : L2.St) (H0 : Hp) (k : R → S → Prop) (Q : VK) : Prop :=
  ∀ H0' G' H' st' v r, Ex H0 H0' → Wd H0' F G' H' → Sts K Z H0' pv σ st' G' → RepR K Z H0' σ v r → k r st' → Q v H'
def TabF (F : Hp) : Prop := ∀ p ∈ Z.tabs, F p.1 = some (tabO p.2)
structure AccX (F : Hp) (pv : List V) (H0 : Hp) (k : KX) : Prop where
  tabs : TabF Z F
  run : ∀ H0' G' H' σ' st' cls dx x, Ex H0 H0' → Wd H0' F G' H' → Sts K Z H0' pv σ' st' G' → RepX K Z H0' H' cls dx x → k x st' → E cls dx σ' H'
/-- the same within an expression: the variables stay -/
structure AccXe (F : Hp) (pv : List V) (σ : L2.St) (H0 : Hp) (k : KX) : Prop where
  tabs : TabF Z F
  run : ∀ H0' G' H' st' cls dx x, Ex H0 H0' → Wd H0' F G' H' → Sts K Z H0' pv σ st' G' → RepX K Z H0' H' cls dx x → k x st' → E cls dx σ H'
def tE (d : DE) : TE := fun σ H Q => ∃ H0 F G pv st k kx, Wd H0 F G H ∧ Sts K Z H0 pv σ st G ∧ d st k kx ∧ Acc K Z F pv σ H0 k Q ∧ AccXe K Z E F pv σ H0 kx
def AccS (F : Hp) (pv : List V) (H0 : Hp) (k : S → Prop) (Q : L2.St → Hp → Prop) : Prop :=
  ∀ H0' G' H' σ' st', Ex H0 H0' → Wd H0' F G' H' → Sts K Z H0' pv σ' st' G' → k st' → Q σ' H'
def AccR (F : Hp) (pv : List V) (H0 : Hp) (k : T → S → Prop) (Q : VK) : Prop :=
  ∀ H0' Gv G' H' σ' st' v t, Ex H0 H0' → Wd H0' F (Gv ++ G') H' → RepT K Z H0' v t Gv → Sts K Z H0' pv σ' st' G' → k t st' → Q v H'
structure AccD (F : Hp) (pv : List V) (H0 : Hp) (DD : DEnds) (D : Ends) : Prop where
  nx : AccS K Z F pv H0 DD.nx D.nx
  rt : AccR K Z F pv H0 DD.rt D.rt
  bk : AccS K Z F pv H0 DD.bk D.bk
  ct : AccS K Z F pv H0 DD.ct D.ct
  ex : AccX K Z E F pv H0 DD.ex
def tS (d : DS) : TS := fun D σ H => ∃ H0 F G pv st DD, Wd H0 F G H ∧ Sts K Z H0 pv σ st G ∧ d DD st ∧ AccD K Z E F pv H0 DD D
end
section
variable {K : PySem.W.Frag} {Z : Zx} {E : XS} {F H0 H0' : Hp} {pv : List V} {σ : L2.St}
theorem Acc.up {k : R → S → Prop} {Q : VK} (h : Acc K Z F pv σ H0 k Q) (e : Ex H0 H0') : Acc K Z F pv σ H0' k Q := fun _ _ _ _ _ _ e' => h _ _ _ _ _ _ (e.trans e')
instance {k : KX} : CoeFun (AccX K Z E F pv H0 k) (fun _ => ∀ H0' G' H' σ' st' cls dx x, Ex H0 H0' → Wd H0' F G' H' → Sts K Z H0' pv σ' st' G' → RepX K Z H0' H' cls dx x → k x st' → E cls dx σ' H') := ⟨AccX.run⟩
theorem AccX.up {k : KX} (h : AccX K Z E F pv H0 k) (e : Ex H0 H0') : AccX K Z E F pv H0' k := ⟨h.tabs, fun _ _ _ _ _ _ _ _ e' => h.run _ _ _ _ _ _ _ _ (e.trans e')⟩
theorem TabF.upd {p : Addr} {o : HO} (t : TabF Z F) (h : F p = none) : TabF Z (upd F p o) := fun q hq => by
  rw [upd_ne (fun e => by have := t q hq; rw [e, h] at this; cases this)]
  exact t q hq
theorem AccX.noxU {k : KX} {p : Addr} {o : HO} (h : AccX K Z E F pv H0 k) (hF : F p = none) : ∀ {H1 : Hp}, AccX K Z E0s (upd F p o) pv H1 (fun _ _ => False) := ⟨h.tabs.upd hF, fun _ _ _ _ _ _ _ _ _ _ _ _ z => z.elim⟩
theorem AccX.at {k : KX} (h : AccX K Z E F pv H0 k) : AccXe K Z E F pv σ H0 k := ⟨h.tabs, fun _ _ _ _ _ _ _ => h.run _ _ _ _ _ _ _ _⟩
instance {k : KX} : CoeFun (AccXe K Z E F pv σ H0 k) (fun _ => ∀ H0' G' H' st' cls dx x, Ex H0 H0' → Wd H0' F G' H' → Sts K Z H0' pv σ st' G' → RepX K Z H0' H' cls dx x → k x st' → E cls dx σ H') := ⟨AccXe.run⟩
theorem AccXe.up {k : KX} (h : AccXe K Z E F pv σ H0 k) (e : Ex H0 H0') : AccXe K Z E F pv σ H0' k := ⟨h.tabs, fun _ _ _ _ _ _ _ e' => h.run _ _ _ _ _ _ _ (e.trans e')⟩
theorem AccXe.noxU {k : KX} {p : Addr} {o : HO} (h : AccXe K Z E F pv σ H0 k) (hF : F p = none) : ∀ {σ' : L2.St} {H1 : Hp}, AccXe K Z E0s (upd F p o) pv σ' H1 (fun _ _ => False) := ⟨h.tabs.upd hF, fun _ _ _ _ _ _ _ _ _ _ _ z => z.elim⟩
theorem AccXe.nox {k : KX} (h : AccXe K Z E F pv σ H0 k) : ∀ {σ' : L2.St} {H1 : Hp}, AccXe K Z E0s F pv σ' H1 (fun _ _ => False) := ⟨h.tabs, fun _ _ _ _ _ _ _ _ _ _ _ z => z.elim⟩
theorem AccX.nox {k : KX} (h : AccX K Z E F pv H0 k) : ∀ {H1 : Hp}, AccX K Z E0s F pv H1 (fun _ _ => False) := ⟨h.tabs, fun _ _ _ _ _ _ _ _ _ _ _ _ z => z.elim⟩
theorem AccS.up {k : S → Prop} {Q : L2.St → Hp → Prop} (h : AccS K Z F pv H0 k Q) (e : Ex H0 H0') : AccS K Z F pv H0' k Q := fun _ _ _ _ _ e' => h _ _ _ _ _ (e.trans e')
theorem AccR.up {k : T → S → Prop} {Q : VK} (h : AccR K Z F pv H0 k Q) (e : Ex H0 H0') : AccR K Z F pv H0' k Q := fun _ _ _ _ _ _ _ _ e' => h _ _ _ _ _ _ _ _ (e.trans e')
theorem AccD.up {DD : DEnds} {D : Ends} (h : AccD K Z E F pv H0 DD D) (e : Ex H0 H0') : AccD K Z E F pv H0' DD D := ⟨h.nx.up e, h.rt.up e, h.bk.up e, h.ct.up e, h.ex.up e⟩
end

/-! ### the judgements -/
def PD (X : Cx) (Z : Zx) (E : XS) (e : Expr) (d : DE) : Prop := PE X e (tE X.K Z E d)
def PZ (X : Cx) (Z : Zx) (E : XS) (s : Stmt) (d : DS) : Prop := PS X s (tS X.K Z E d)
def PZs (X : Cx) (Z : Zx) (E : XS) (s : List Stmt) (d : DS) : Prop := PSs X s (tS X.K Z E d)
section
variable {X : Cx} {e : Expr} {es : List Expr} {s : Stmt} {ss : List Stmt}
theorem pe_weak {t t' : TE} (h : PE X e t) (k : ∀ σ H Q, t' σ H Q → t σ H Q) : PE X e t' := ⟨fun pins s σ H Q I q => h.run pins s σ H Q I (k σ H Q q)⟩
theorem pt_weak {t t' : TT} (h : PT X e t) (k : ∀ σ H Q, t' σ H Q → t σ H Q) : PT X e t' := ⟨fun pins s σ H Q I q => h.run pins s σ H Q I (k σ H Q q)⟩
theorem pa_weak {t t' : TA} (h : PA X es t) (k : ∀ σ H Q, t' σ H Q → t σ H Q) : PA X es t' := ⟨fun pos pins s σ H Q I q => h.run pos pins s σ H Q I (k σ H Q q)⟩
theorem ps_weak {t t' : TS} (h : PS X s t) (k : ∀ D σ H, t' D σ H → t D σ H) : PS X s t' := ⟨fun pins st σ H D I q => h.run pins st σ H D I (k D σ H q)⟩
theorem pss_weak {t t' : TS} (h : PSs X ss t) (k : ∀ D σ H, t' D σ H → t D σ H) : PSs X ss t' := ⟨fun pins st σ H D I q => h.run pins st σ H D I (k D σ H q)⟩
end
end Y
namespace Y
open PySem L2
open Evl (Ex)

/-! ### combinators -/
def dC (w : W) : DE := fun st k _ => k (.w w) st
def dVar (i : Nat) : DE := fun st k _ => match at' st i with
  | .un => False
  | .lo (.fz w) => k (.w w) st
  | .mp _ (.fz w) => k (.w w) st
  | .lo _ => k (.pk i) st
  | .mp _ _ => k (.pk i) st
  | .fr _ _ _ _ _ _ => False
abbrev O1 := W → (W → Prop) → Prop
abbrev O2 := W → W → (W → Prop) → Prop
abbrev OC := List W → (W → Prop) → Prop
def dUn (o : O1) (a : DE) : DE := fun st k x => a st (fun r st1 => match r.val st1 with
  | some w => o w fun w' => k (.w w') st1
  | none => False) x
def dOp (o : O2) (a b : DE) : DE := fun st k x => a st (fun r1 st1 => b st1 (fun r2 st2 => match r1.val st2, r2.val st2 with
  | some w1, some w2 => o w1 w2 fun w => k (.w w) st2
  | _, _ => False) x) x
abbrev DA := S → (List R → S → Prop) → KX → Prop
def aNil : DA := fun st k _ => k [] st
def aCons (d : DE) (a : DA) : DA := fun st k x => d st (fun r st1 => a st1 (fun rs st2 => k (r :: rs) st2) x) x
def vals (st : S) : List R → Option (List W)
  | [] => some []
  | r :: rs => match r.val st, vals st rs with
    | some w, some ws => some (w :: ws)
    | _, _ => none
def dCB (c : OC) (a : DA) : DE := fun st k x => a st (fun rs st1 => match vals st1 rs with
  | some ws => c ws fun w => k (.w w) st1
  | none => False) x
/-- frozen values alone -/
def frs' : List R → Option (List W)
  | [] => some []
  | .w w :: rs => (frs' rs).map (w :: ·)
  | .pk _ :: _ => none
abbrev DT := S → (Bool → S → Prop) → KX → Prop
def dTest (d : DE) : DT := fun st k x => d st (fun r st1 => match r with
  | .w (.bl b) => k b st1
  | _ => False) x
def dNot (t : DT) : DT := fun st k x => t st (fun b st1 => k (!b) st1) x
def dAnd (t u : DT) : DT := fun st k x => t st (fun b st1 => (b = true → u st1 k x) ∧ (b = false → k false st1)) x
def dOr (t u : DT) : DT := fun st k x => t st (fun b st1 => (b = true → k true st1) ∧ (b = false → u st1 k x)) x
def dIfE (t : DT) (a b : DE) : DE := fun st k x => t st (fun c st1 => (c = true → a st1 k x) ∧ (c = false → b st1 k x)) x
/-- a and b, a or b of truths, as values -/
def dAndV (a b : DE) : DE := fun st k x => a st (fun r st1 => match r with
  | .w (.bl c) => (c = true → b st1 k x) ∧ (c = false → k (.w (.bl false)) st1)
  | _ => False) x
def dOrV (a b : DE) : DE := fun st k x => a st (fun r st1 => match r with
  | .w (.bl c) => (c = true → k (.w (.bl true)) st1) ∧ (c = false → b st1 k x)
  | _ => False) x
def dNotV (a : DE) : DE := fun st k x => a st (fun r st1 => match r with
  | .w (.bl c) => k (.w (.bl !c)) st1
  | _ => False) x
/-! statements -/
def dNext : DS := fun D st => D.nx st
def dSeq (a b : DS) : DS := fun D st => a { D with nx := b D } st
def dBrk : DS := fun D st => D.bk st
def dCnt : DS := fun D st => D.ct st
def dExpr (d : DE) : DS := fun D st => d st (fun _ st1 => D.nx st1) D.ex
def dRet (d : DE) : DS := fun D st => d st (fun r st1 => match r with
  | .w w => D.rt (.fz w) st1
  | .pk i => match at' st1 i with
    | .lo t => D.rt t (put st1 i .un)
    | _ => False) D.ex
def dRetN : DS := fun D st => D.rt (.fz .non) st
def dIf (c : DT) (a b : DS) : DS := fun D st => c st (fun t st1 => (t = true → a D st1) ∧ (t = false → b D st1)) D.ex
def sto (st : S) (i : Nat) (t : T) (k : S → Prop) : Prop := match at' st i with
  | .mp _ _ => False
  | _ => k (put st i (.lo t))
def dAsg (i : Nat) (d : DE) : DS := fun D st => d st (fun r st1 => match r with
  | .w w => sto st1 i (.fz w) D.nx
  | .pk _ => False) D.ex
/-- x op= e -/
def dAug (i : Nat) (o : O2) (d : DE) : DS := fun D st => match at' st i with
  | .lo (.fz w1) => d st (fun r st1 => match r.val st1 with
    | some w2 => o w1 w2 fun w => sto st1 i (.fz w) D.nx
    | none => False) D.ex
  | _ => False
/-- targets -/
abbrev DG := W → S → (S → Prop) → Prop
def gN (i : Nat) : DG := fun w st k => sto st i (.fz w) k
abbrev DGs := List W → S → (S → Prop) → Prop
def gsNil : DGs := fun ws st k => ws = [] ∧ k st
def gsCons (g : DG) (gs : DGs) : DGs := fun ws st k => match ws with
  | [] => False
  | w :: r => g w st fun st1 => gs r st1 k
def gT (gs : DGs) : DG := fun w st k => match w with
  | .tup ws => gs ws st k
  | _ => False
def dAsgG (g : DG) (d : DE) : DS := fun D st => d st (fun r st1 => match r with
  | .w w => g w st1 D.nx
  | .pk _ => False) D.ex
/-- what a loop walks: its items -/
abbrev DI := S → (List W → S → Prop) → KX → Prop
def iSeq (d : DE) : DI := fun st k x => d st (fun r st1 => match r with
  | .w (.lst ws) => k ws st1
  | .w (.tup ws) => k ws st1
  | _ => False) x
def iRg (a : DA) : DI := fun st k x => a st (fun rs st1 => match vals st1 rs with
  | some [.int j] => (-(2 ^ 62) ≤ j ∧ j < 2 ^ 62) ∧ k ((List.range j.toNat).map fun (i : Nat) => .int i) st1
  | _ => False) x
/-- slots forgotten -/
def wipeS (st : S) : List Nat → S
  | [] => st
  | v :: vs => put (wipeS st vs) v .un
/-- fg: the names that are of one turn alone -/
def forW (fg : List Nat) (g : DG) (body : DS) (D : DEnds) : List W → S → Prop
  | [], st => D.nx (wipeS st fg)
  | w :: ws, st => g w (wipeS st fg) fun st1 => body { D with nx := forW fg g body D ws, ct := forW fg g body D ws, bk := fun st => D.nx (wipeS st fg) } st1
def dFor (fg : List Nat) (i : DI) (g : DG) (body : DS) : DS := fun D st => i st (fun ws st1 => forW fg g body D ws st1) D.ex
/-- a while: P holds at the test by a measure -/
def dWhile (fg : List Nat) (c : DT) (body : DS) : DS := fun D st => ∃ P : Nat → S → Prop, (∃ m, P m (wipeS st fg)) ∧ ∀ m st, P m st →
  c st (fun b st1 => (b = true → body { D with nx := fun st' => ∃ m', m' < m ∧ P m' (wipeS st' fg), ct := fun st' => ∃ m', m' < m ∧ P m' (wipeS st' fg), bk := fun st => D.nx (wipeS st fg) } st1) ∧ (b = false → D.nx (wipeS st1 fg))) D.ex

/-! ### rules on values -/
section
variable (K : PySem.W.Frag) (Z : Zx)
/-- what a by-values rule may hand on: a frozen value, in a world that grew -/
def Fin (H0 H : Hp) (k : W → Prop) (Q : VK) : Prop := ∀ H0' H' v w, Gr H0 H H0' H' → Rep K Z H0' v w → k w → Q v H'
def OpD (r : R2) (o : O2) : Prop := ∀ H0 H v1 w1 v2 w2 k Q, Ex H0 H → RepP K Z H0 H v1 w1 → RepP K Z H0 H v2 w2 → o w1 w2 k → Fin K Z H0 H k Q → r v1 v2 H Q
def UnD (r : V → Hp → VK → Prop) (o : O1) : Prop := ∀ H0 H v w k Q, Ex H0 H → RepP K Z H0 H v w → o w k → Fin K Z H0 H k Q → r v H Q
inductive RepPs (H0 H : Hp) : List V → List W → Prop
  | nil : RepPs H0 H [] []
  | cons {v w vs ws} : RepP K Z H0 H v w → RepPs H0 H vs ws → RepPs H0 H (v :: vs) (w :: ws)
def CallD (r : List V → Hp → VK → Prop) (c : OC) : Prop := ∀ H0 H vs ws k Q, Ex H0 H → RepPs K Z H0 H vs ws → c ws k → Fin K Z H0 H k Q → r vs H Q
end
section
variable {K : PySem.W.Frag} {Z : Zx} {H0 H : Hp}
theorem Fin.same {k : W → Prop} {Q : VK} (f : Fin K Z H0 H k Q) (e : Ex H0 H) {v : V} {w : W} (r : Rep K Z H0 v w) (h : k w) : Q v H := f _ _ _ _ (Gr.refl e) r h
theorem RepP.int_of {v : V} {i : Int} (h : RepP K Z H0 H v (.int i)) : v = .int i := by cases h with | fz h => cases h; rfl
theorem RepP.bl_of {v : V} {i : Bool} (h : RepP K Z H0 H v (.bl i)) : v = .bl i := by cases h with | fz h => cases h; rfl
theorem RepP.str_of {v : V} {i : Str} (h : RepP K Z H0 H v (.str i)) : v = .str i := by cases h with | fz h => cases h; rfl
theorem RepP.non_of {v : V} (h : RepP K Z H0 H v .non) : v = .non := by cases h with | fz h => cases h; rfl
theorem RepP.lst_of {v : V} {ws : List W} (h : RepP K Z H0 H v (.lst ws)) (e : Ex H0 H) : ∃ p xs, v = .ref p ∧ H p = some (.lst xs) ∧ Reps K Z H0 xs ws := by
  cases h with
  | fz h => cases h with | lst h r => exact ⟨_, _, rfl, e _ _ h, r⟩
  | lst h r => exact ⟨_, _, rfl, h, r⟩
theorem RepP.scr_of {v : V} {ns : List Int} (h : RepP K Z H0 H v (.scr ns)) (e : Ex H0 H) : ∃ p, v = .ref p ∧ SqL K H p (ns.map V.int) := by
  cases h with | fz h => cases h with | scr h => exact ⟨_, rfl, Evl.ex_l e h⟩
theorem RepP.tup_of {v : V} {ws : List W} (h : RepP K Z H0 H v (.tup ws)) (e : Ex H0 H) : ∃ p xs, v = .ref p ∧ SqT K H p xs ∧ Reps K Z H0 xs ws := by
  cases h with | fz h => cases h with | tup h r => exact ⟨_, _, rfl, Evl.ex_t e h, r⟩
end

/-! ### the rules -/
section
variable {X : Cx} {Z : Zx} {E : XS} {e a b : Expr} {da db : DE} {pos : Pos}
theorem pd_c {t : TE} {v : V} {w : W} (h : PE X e t) (ht : t = tC v) (r : ∀ H0, Rep X.K Z H0 v w) : PD X Z E e (dC w) := by
  subst ht
  refine pe_weak h fun σ H Q q => ?_
  obtain ⟨H0, F, G, pv, st, k, kx, wd, ss, hd, hk, hx⟩ := q
  exact hk _ _ _ _ _ _ (Ex.refl _) wd ss (.w (r _)) hd
theorem pd_int {i : Int} {j} : PD X Z E (.Constant (.int i) j pos) (dC (.int i)) := pd_c pe_int rfl fun _ => .int
theorem pd_bl {i : Bool} {j} : PD X Z E (.Constant (.bool i) j pos) (dC (.bl i)) := pd_c pe_bl rfl fun _ => .bl
theorem pd_non {j} : PD X Z E (.Constant .none j pos) (dC .non) := pd_c pe_non rfl fun _ => .non
theorem pd_str {i : Str} {j} : PD X Z E (.Constant (.str i) j pos) (dC (.str i)) := pd_c pe_str rfl fun _ => .str
theorem pd_var (i : Nat) {x : Str} (hN : X.N[i]? = some x := by rfl) (hv : Vis X.env.scope x := by first | exact Or.inl rfl | exact Or.inr (Or.inl rfl) | exact Or.inr (Or.inr rfl)) (hd : (x == ("__debug__" : Str)) = false := by decide)
    (hcd : (x == ("__classdict__" : Str)) = false := by decide) : PD X Z E (.Name x pos) (dVar i) := by
  refine pe_weak (pe_var hN hv hd hcd) fun σ H Q q => ?_
  obtain ⟨H0, F, G, pv, st, k, kx, wd, ss, hd, hk, hx⟩ := q
  unfold dVar at hd
  cases q : at' st i with
  | un => rw [q] at hd; exact hd.elim
  | lo t =>
    rw [q] at hd
    obtain ⟨v, G1, Ga, Gb, h1, h2, _⟩ := ss.lo_at q
    refine ⟨v, h1, ?_⟩
    cases t with
    | fz w => cases h2 with | fz h2 => exact hk _ _ _ _ _ _ (Ex.refl _) wd ss (.w h2) hd
    | lst w => exact hk _ _ _ _ _ _ (Ex.refl _) wd ss (.pk h1) hd
    | dK w => exact hk _ _ _ _ _ _ (Ex.refl _) wd ss (.pk h1) hd
    | dT w => exact hk _ _ _ _ _ _ (Ex.refl _) wd ss (.pk h1) hd
    | ins c w => exact hk _ _ _ _ _ _ (Ex.refl _) wd ss (.pk h1) hd
    | wo w _ => exact hk _ _ _ _ _ _ (Ex.refl _) wd ss (.pk h1) hd
  | fr _ _ _ _ _ _ => rw [q] at hd; exact hd.elim
  | mp n t =>
    rw [q] at hd
    obtain ⟨v, G1, Ga, Gb, h1, _, h2, _⟩ := ss.mp_at q
    refine ⟨v, h1, ?_⟩
    cases t with
    | fz w => cases h2 with | fz h2 => exact hk _ _ _ _ _ _ (Ex.refl _) wd ss (.w h2) hd
    | lst w => exact hk _ _ _ _ _ _ (Ex.refl _) wd ss (.pk h1) hd
    | dK w => exact hk _ _ _ _ _ _ (Ex.refl _) wd ss (.pk h1) hd
    | dT w => exact hk _ _ _ _ _ _ (Ex.refl _) wd ss (.pk h1) hd
    | ins c w => exact hk _ _ _ _ _ _ (Ex.refl _) wd ss (.pk h1) hd
    | wo w _ => exact hk _ _ _ _ _ _ (Ex.refl _) wd ss (.pk h1) hd
/-- one after another: the frame of most proofs -/
theorem tE_seq {K : PySem.W.Frag} {σ : L2.St} {H H0 F : Hp} {G : Fp} {pv : List V} {st : S} {kx : KX} {Q : VK} {k : R → S → Prop} (wd : Wd H0 F G H) (ss : Sts K Z H0 pv σ st G) (hx : AccXe K Z E F pv σ H0 kx) (hd : da st k kx)
    (h : ∀ H0' G' H' st' v r, Ex H0 H0' → Wd H0' F G' H' → Sts K Z H0' pv σ st' G' → RepR K Z H0' σ v r → k r st' → Q v H') : tE K Z E da σ H Q := ⟨H0, F, G, pv, st, k, kx, wd, ss, hd, h, hx⟩
theorem dop_ok {r : R2} {o : O2} {σ : L2.St} {H : Hp} {Q : VK} (ho : OpD X.K Z r o) (q : tE X.K Z E (dOp o da db) σ H Q) : tOp r (tE X.K Z E da) (tE X.K Z E db) σ H Q := by
  obtain ⟨H0, F, G, pv, st, k, kx, wd, ss, hd, hk, hx⟩ := q
  refine tE_seq wd ss hx hd fun H1 G1 H1' st1 v1 r1 e1 wd1 ss1 rr1 k1 => ?_
  refine tE_seq wd1 ss1 (hx.up e1) k1 fun H2 G2 H2' st2 v2 r2 e2 wd2 ss2 rr2 k2 => ?_
  have rr1' := rr1.mono e2
  cases q1 : r1.val st2 with
  | none => rw [q1] at k2; exact k2.elim
  | some w1 =>
    cases q2 : r2.val st2 with
    | none => rw [q1, q2] at k2; exact k2.elim
    | some w2 =>
      rw [q1, q2] at k2
      exact ho H2 H2' v1 w1 v2 w2 _ Q wd2.ex (rr1'.peek ss2 wd2 q1) (rr2.peek ss2 wd2 q2) k2 fun H0' H' v w g rv kw =>
        hk _ _ _ _ _ _ (e1.trans (e2.trans g.e0)) (wd2.grow g) (ss2.mono g.e0) (.w rv) kw
theorem pd_op {op : Operator} {r : R2} {o : O2} (ho : OpR X (binaryOp op) r) (hd : OpD X.K Z r o) (ha : PD X Z E a da) (hb : PD X Z E b db) : PD X Z E (.BinOp a op b pos) (dOp o da db) :=
  pe_weak (pe_op ho ha hb) fun _ _ _ => dop_ok hd
theorem pd_cmp {op : CmpOp} {r : R2} {o : O2} (ho : OpR X (compareOp op) r) (hd : OpD X.K Z r o) (ha : PD X Z E a da) (hb : PD X Z E b db) (hm : behindInMarks op b = false) : PD X Z E (.Compare a [op] [b] pos) (dOp o da db) :=
  pe_weak (pe_cmpR ho ha hb hm) fun _ _ _ => dop_ok hd
theorem pd_ix {r : R2} {o : O2} (ho : IxR X r) (hd : OpD X.K Z r o) (ha : PD X Z E a da) (hb : PD X Z E b db) (hs : PlainIx b) : PD X Z E (.Subscript a b pos) (dOp o da db) :=
  pe_weak (pe_ix ho ha hb hs) fun _ _ _ => dop_ok hd
theorem pd_un {op : UnaryOp} {r : V → Hp → VK → Prop} {o : O1} (ho : UnR X (unaryOp op) r) (hd : UnD X.K Z r o) (ha : PD X Z E a da) : PD X Z E (.UnaryOp op a pos) (dUn o da) := by
  refine pe_weak (pe_un ho ha) fun σ H Q q => ?_
  obtain ⟨H0, F, G, pv, st, k, kx, wd, ss, hd', hk, hx⟩ := q
  refine tE_seq wd ss hx hd' fun H1 G1 H1' st1 v1 r1 e1 wd1 ss1 rr1 k1 => ?_
  cases q1 : r1.val st1 with
  | none => rw [q1] at k1; exact k1.elim
  | some w1 =>
    rw [q1] at k1
    exact hd H1 H1' v1 w1 _ Q wd1.ex (rr1.peek ss1 wd1 q1) k1 fun H0' H' v w g rv kw => hk _ _ _ _ _ _ (e1.trans g.e0) (wd1.grow g) (ss1.mono g.e0) (.w rv) kw
end

/-! ### argument lists -/
inductive RepRs (K : PySem.W.Frag) (Z : Zx) (H : Hp) (σ : L2.St) : List V → List R → Prop
  | nil : RepRs K Z H σ [] []
  | cons {v r vs rs} : RepR K Z H σ v r → RepRs K Z H σ vs rs → RepRs K Z H σ (v :: vs) (r :: rs)
section
variable {K : PySem.W.Frag} {Z : Zx} {H0 H H' F : Hp} {σ : L2.St} {pv : List V}
theorem RepRs.mono (e : Ex H H') : ∀ {vs rs}, RepRs K Z H σ vs rs → RepRs K Z H' σ vs rs
  | _, _, .nil => .nil
  | _, _, .cons h t => .cons (h.mono e) (RepRs.mono e t)
theorem RepRs.peek {st : S} {G : Fp} (ss : Sts K Z H0 pv σ st G) (wd : Wd H0 F G H) : ∀ {vs rs ws}, RepRs K Z H0 σ vs rs → vals st rs = some ws → RepPs K Z H0 H vs ws
  | _, _, _, .nil, e => by cases e; exact .nil
  | _, _, ws, .cons (r := r) (rs := rs) h t, e => by
    unfold vals at e
    cases q1 : r.val st with
    | none => rw [q1] at e; cases e
    | some w =>
      cases q2 : vals st rs with
      | none => rw [q1, q2] at e; cases e
      | some ws' =>
        rw [q1, q2] at e; cases e
        exact .cons (h.peek ss wd q1) (RepRs.peek ss wd t q2)
theorem RepRs.frs : ∀ {vs rs ws}, RepRs K Z H0 σ vs rs → frs' rs = some ws → Reps K Z H0 vs ws
  | _, _, _, .nil, e => by cases e; exact .nil
  | _, _, ws, .cons (r := .pk _) h t, e => by cases e
  | _, _, ws, .cons (r := .w w) (rs := rs) h t, e => by
    unfold frs' at e
    cases q : frs' rs with
    | none => rw [q] at e; cases e
    | some us => rw [q] at e; cases e; cases h with | w h => exact .cons h (RepRs.frs t q)
end
section
variable (K : PySem.W.Frag) (Z : Zx) (E : XS)
def AccA (F : Hp) (pv : List V) (σ : L2.St) (H0 : Hp) (k : List R → S → Prop) (Q : List V → Hp → Prop) : Prop :=
  ∀ H0' G' H' st' vs rs, Ex H0 H0' → Wd H0' F G' H' → Sts K Z H0' pv σ st' G' → RepRs K Z H0' σ vs rs → k rs st' → Q vs H'
def tAr (d : DA) : TA := fun σ H Q => ∃ H0 F G pv st k kx, Wd H0 F G H ∧ Sts K Z H0 pv σ st G ∧ d st k kx ∧ AccA K Z F pv σ H0 k Q ∧ AccXe K Z E F pv σ H0 kx
end
def PAD (X : Cx) (Z : Zx) (E : XS) (es : List Expr) (d : DA) : Prop := PA X es (tAr X.K Z E d)
section
variable {X : Cx} {Z : Zx} {E : XS} {e a b : Expr} {es : List Expr} {da db : DE} {ds : DA} {pos : Pos}
theorem pad_nil : PAD X Z E [] aNil := pa_weak pa_nil fun σ H Q q => by
  obtain ⟨H0, F, G, pv, st, k, kx, wd, ss, hd, hk, hx⟩ := q
  exact hk _ _ _ _ _ _ (Ex.refl _) wd ss .nil hd
theorem tA_seq {K : PySem.W.Frag} {σ : L2.St} {H H0 F : Hp} {G : Fp} {pv : List V} {st : S} {kx : KX} {Q : List V → Hp → Prop} {k : List R → S → Prop} (wd : Wd H0 F G H) (ss : Sts K Z H0 pv σ st G) (hx : AccXe K Z E F pv σ H0 kx) (hd : ds st k kx)
    (h : ∀ H0' G' H' st' vs rs, Ex H0 H0' → Wd H0' F G' H' → Sts K Z H0' pv σ st' G' → RepRs K Z H0' σ vs rs → k rs st' → Q vs H') : tAr K Z E ds σ H Q := ⟨H0, F, G, pv, st, k, kx, wd, ss, hd, h, hx⟩
theorem pad_cons (ha : PD X Z E e da) (hr : PAD X Z E es ds) (hs : starEach (e :: es) X.env = (false, eval e X.env) :: starEach es X.env := by rfl) : PAD X Z E (e :: es) (aCons da ds) := by
  refine pa_weak (pa_cons ha hr hs) fun σ H Q q => ?_
  obtain ⟨H0, F, G, pv, st, k, kx, wd, ss, hd, hk, hx⟩ := q
  refine tE_seq wd ss hx hd fun H1 G1 H1' st1 v1 r1 e1 wd1 ss1 rr1 k1 => ?_
  exact tA_seq wd1 ss1 (hx.up e1) k1 fun H2 G2 H2' st2 vs rs e2 wd2 ss2 rr2 k2 => hk _ _ _ _ _ _ (e1.trans e2) wd2 ss2 (.cons (rr1.mono e2) rr2) k2
theorem dcb_ok {r : List V → Hp → VK → Prop} {c : OC} {σ : L2.St} {H : Hp} {Q : VK} (hc : CallD X.K Z r c) (q : tE X.K Z E (dCB c ds) σ H Q) : tCB r (tAr X.K Z E ds) σ H Q := by
  obtain ⟨H0, F, G, pv, st, k, kx, wd, ss, hd, hk, hx⟩ := q
  refine tA_seq wd ss hx hd fun H1 G1 H1' st1 vs rs e1 wd1 ss1 rr1 k1 => ?_
  cases q1 : vals st1 rs with
  | none => rw [q1] at k1; exact k1.elim
  | some ws =>
    rw [q1] at k1
    exact hc H1 H1' vs ws _ Q wd1.ex (rr1.peek ss1 wd1 q1) k1 fun H0' H' v w g rv kw => hk _ _ _ _ _ _ (e1.trans g.e0) (wd1.grow g) (ss1.mono g.e0) (.w rv) kw
theorem pd_callB {x : Str} {p : Pos} {id : String} {r : List V → Hp → VK → Prop} {c : OC} (hc : CallR X (.builtin id) r) (hd : CallD X.K Z r c) (hg : Gl X x) (hm : X.mg x = none) (hv : bootBuiltins x = some (.builtin id)) (ha : PAD X Z E (e :: es) ds)
    (hn : x ≠ "__name__" := by decide) (hdb : (x == ("__debug__" : Str)) = false := by decide) (he : starEach (e :: es) X.env = (false, eval e X.env) :: starEach es X.env := by rfl) (hpl : (backTo pos (starEach es X.env)).any (·.1) = false := by rfl) :
    PD X Z E (.Call (.Name x p) (e :: es) [] pos) (dCB c ds) := pe_weak (pe_callB hc hg hm hv ha hn hdb he hpl) fun _ _ _ => dcb_ok hd
theorem pd_callTy {x : Str} {p : Pos} {id : String} {r : List V → Hp → VK → Prop} {c : OC} (hc : CallR X (.type id) r) (hd : CallD X.K Z r c) (hg : Gl X x) (hm : X.mg x = none) (hv : bootBuiltins x = some (.type id)) (ha : PAD X Z E (e :: es) ds)
    (hn : x ≠ "__name__" := by decide) (hdb : (x == ("__debug__" : Str)) = false := by decide) (he : starEach (e :: es) X.env = (false, eval e X.env) :: starEach es X.env := by rfl) (hpl : (backTo pos (starEach es X.env)).any (·.1) = false := by rfl) :
    PD X Z E (.Call (.Name x p) (e :: es) [] pos) (dCB c ds) := pe_weak (pe_callTy hc hg hm hv ha hn hdb he hpl) fun _ _ _ => dcb_ok hd
end

/-! ### tests -/
section
variable (K : PySem.W.Frag) (Z : Zx) (E : XS)
def AccT (F : Hp) (pv : List V) (σ : L2.St) (H0 : Hp) (k : Bool → S → Prop) (Q : Bool → Hp → Prop) : Prop :=
  ∀ H0' G' H' st' b, Ex H0 H0' → Wd H0' F G' H' → Sts K Z H0' pv σ st' G' → k b st' → Q b H'
def tTs (d : DT) : TT := fun σ H Q => ∃ H0 F G pv st k kx, Wd H0 F G H ∧ Sts K Z H0 pv σ st G ∧ d st k kx ∧ AccT K Z F pv σ H0 k Q ∧ AccXe K Z E F pv σ H0 kx
end
def PTD (X : Cx) (Z : Zx) (E : XS) (e : Expr) (d : DT) : Prop := PT X e (tTs X.K Z E d)
def PWD (X : Cx) (Z : Zx) (E : XS) (e : Expr) (d : DT) : Prop := PW X e (tTs X.K Z E d)
section
variable {X : Cx} {Z : Zx} {E : XS} {e a b : Expr} {es : List Expr} {da db : DE} {ta tb : DT} {pos : Pos}
theorem pw_weak {t t' : TT} (h : PW X e t) (k : ∀ σ H Q, t' σ H Q → t σ H Q) : PW X e t' := ⟨fun wh pins s σ H Q I q => h.run wh pins s σ H Q I (k σ H Q q)⟩
theorem tT_seq {K : PySem.W.Frag} {σ : L2.St} {H H0 F : Hp} {G : Fp} {pv : List V} {st : S} {kx : KX} {Q : Bool → Hp → Prop} {k : Bool → S → Prop} (wd : Wd H0 F G H) (ss : Sts K Z H0 pv σ st G) (hx : AccXe K Z E F pv σ H0 kx) (hd : ta st k kx)
    (h : ∀ H0' G' H' st' b, Ex H0 H0' → Wd H0' F G' H' → Sts K Z H0' pv σ st' G' → k b st' → Q b H') : tTs K Z E ta σ H Q := ⟨H0, F, G, pv, st, k, kx, wd, ss, hd, h, hx⟩
theorem dtest_ok {σ : L2.St} {H : Hp} {Q : Bool → Hp → Prop} {t : TE} (ht : ∀ σ H Q, tE X.K Z E da σ H Q → t σ H Q) (q : tTs X.K Z E (dTest da) σ H Q) : t σ H fun x H' => ∃ k, x = .bl k ∧ Q k H' := by
  obtain ⟨H0, F, G, pv, st, k, kx, wd, ss, hd, hk, hx⟩ := q
  refine ht _ _ _ (tE_seq wd ss hx hd fun H1 G1 H1' st1 v1 r1 e1 wd1 ss1 rr1 k1 => ?_)
  cases rr1 with
  | pk _ => exact k1.elim
  | w rv => cases rv with
    | bl => exact ⟨_, rfl, hk _ _ _ _ _ e1 wd1 ss1 k1⟩
    | _ => exact k1.elim
theorem ptd_cmp {op : CmpOp} {r : R2} {o : O2} (ho : OpR X (compareOp op) r) (hd : OpD X.K Z r o) (ha : PD X Z E a da) (hb : PD X Z E b db) (hm : behindInMarks op b = false) : PTD X Z E (.Compare a [op] [b] pos) (dTest (dOp o da db)) :=
  pt_weak (pt_cmpR ho ha hb hm) fun _ _ _ q => dtest_ok (fun _ _ _ => dop_ok hd) q
theorem ptd_val (h : PD X Z E e da) (he : ∀ whole, isTrue e X.env whole = (do let v ← whole; standAt e.pos; holding [v] (truthy v)) := by intro _; rfl) : PTD X Z E e (dTest da) :=
  pt_weak (pt_val h he) fun _ _ _ q => dtest_ok (fun _ _ _ z => z) q
theorem pwd_and1 (ha : PTD X Z E a ta) : PWD X Z E (.BoolOp .And [a] pos) ta := pw_weak (pw_and1 ha) fun _ _ _ q => q
theorem pwd_or1 (ha : PTD X Z E a ta) : PWD X Z E (.BoolOp .Or [a] pos) ta := pw_weak (pw_or1 ha) fun _ _ _ q => q
theorem pwd_and {rest : List Expr} (ha : PTD X Z E a ta) (hb : PWD X Z E (.BoolOp .And (b :: rest) pos) tb) : PWD X Z E (.BoolOp .And (a :: b :: rest) pos) (dAnd ta tb) := by
  refine pw_weak (pw_and ha hb) fun σ H Q q => ?_
  obtain ⟨H0, F, G, pv, st, k, kx, wd, ss, hd, hk, hx⟩ := q
  refine tT_seq wd ss hx hd fun H1 G1 H1' st1 c e1 wd1 ss1 k1 => ?_
  cases c with
  | true => exact iteT (tT_seq wd1 ss1 (hx.up e1) (k1.1 rfl) fun H2 G2 H2' st2 c e2 wd2 ss2 k2 => hk _ _ _ _ _ (e1.trans e2) wd2 ss2 k2)
  | false => exact iteF (hk _ _ _ _ _ e1 wd1 ss1 (k1.2 rfl))
theorem pwd_or {rest : List Expr} (ha : PTD X Z E a ta) (hb : PWD X Z E (.BoolOp .Or (b :: rest) pos) tb) : PWD X Z E (.BoolOp .Or (a :: b :: rest) pos) (dOr ta tb) := by
  refine pw_weak (pw_or ha hb) fun σ H Q q => ?_
  obtain ⟨H0, F, G, pv, st, k, kx, wd, ss, hd, hk, hx⟩ := q
  refine tT_seq wd ss hx hd fun H1 G1 H1' st1 c e1 wd1 ss1 k1 => ?_
  cases c with
  | true => exact iteT (hk _ _ _ _ _ e1 wd1 ss1 (k1.1 rfl))
  | false => exact iteF (tT_seq wd1 ss1 (hx.up e1) (k1.2 rfl) fun H2 G2 H2' st2 c e2 wd2 ss2 k2 => hk _ _ _ _ _ (e1.trans e2) wd2 ss2 k2)
theorem PWD.pt (h : PWD X Z E e ta) : PTD X Z E e ta := PW.pt h
theorem ptd_not (ha : PTD X Z E a ta) : PTD X Z E (.UnaryOp .Not a pos) (dNot ta) := by
  refine pt_weak (pt_not ha) fun σ H Q q => ?_
  obtain ⟨H0, F, G, pv, st, k, kx, wd, ss, hd, hk, hx⟩ := q
  exact tT_seq wd ss hx hd fun H1 G1 H1' st1 c e1 wd1 ss1 k1 => hk _ _ _ _ _ e1 wd1 ss1 k1
theorem pd_if {c : Expr} (hc : PTD X Z E c ta) (ha : PD X Z E a da) (hb : PD X Z E b db) : PD X Z E (.IfExp c a b pos) (dIfE ta da db) := by
  refine pe_weak (pe_ifExp hc ha hb) fun σ H Q q => ?_
  obtain ⟨H0, F, G, pv, st, k, kx, wd, ss, hd, hk, hx⟩ := q
  refine tT_seq wd ss hx hd fun H1 G1 H1' st1 c e1 wd1 ss1 k1 => ?_
  cases c with
  | true => exact iteT (tE_seq wd1 ss1 (hx.up e1) (k1.1 rfl) (hk.up e1))
  | false => exact iteF (tE_seq wd1 ss1 (hx.up e1) (k1.2 rfl) (hk.up e1))
theorem pd_one {op} (h : PD X Z E a da) : PD X Z E (.BoolOp op [a] pos) da := pe_weak (pe_one h) fun _ _ _ q => q
theorem pd_and {rest : List Expr} (ha : PD X Z E a da) (hb : PD X Z E (.BoolOp .And (b :: rest) pos) db) : PD X Z E (.BoolOp .And (a :: b :: rest) pos) (dAndV da db) := by
  refine pe_weak (pe_and ha hb) fun σ H Q q => ?_
  obtain ⟨H0, F, G, pv, st, k, kx, wd, ss, hd, hk, hx⟩ := q
  refine tE_seq wd ss hx hd fun H1 G1 H1' st1 v1 r1 e1 wd1 ss1 rr1 k1 => ?_
  cases rr1 with
  | pk _ => exact k1.elim
  | w rv => cases rv with
    | bl =>
      rename_i c
      refine ⟨c, rfl, ?_⟩
      cases c with
      | true => exact iteT (tE_seq wd1 ss1 (hx.up e1) (k1.1 rfl) (hk.up e1))
      | false => exact iteF (hk _ _ _ _ _ _ e1 wd1 ss1 (.w .bl) (k1.2 rfl))
    | _ => exact k1.elim
theorem pd_or {rest : List Expr} (ha : PD X Z E a da) (hb : PD X Z E (.BoolOp .Or (b :: rest) pos) db) : PD X Z E (.BoolOp .Or (a :: b :: rest) pos) (dOrV da db) := by
  refine pe_weak (pe_or ha hb) fun σ H Q q => ?_
  obtain ⟨H0, F, G, pv, st, k, kx, wd, ss, hd, hk, hx⟩ := q
  refine tE_seq wd ss hx hd fun H1 G1 H1' st1 v1 r1 e1 wd1 ss1 rr1 k1 => ?_
  cases rr1 with
  | pk _ => exact k1.elim
  | w rv => cases rv with
    | bl =>
      rename_i c
      refine ⟨c, rfl, ?_⟩
      cases c with
      | true => exact iteT (hk _ _ _ _ _ _ e1 wd1 ss1 (.w .bl) (k1.1 rfl))
      | false => exact iteF (tE_seq wd1 ss1 (hx.up e1) (k1.2 rfl) (hk.up e1))
    | _ => exact k1.elim
theorem pd_not (ha : PD X Z E a da) : PD X Z E (.UnaryOp .Not a pos) (dNotV da) := by
  refine pe_weak (pe_not ha) fun σ H Q q => ?_
  obtain ⟨H0, F, G, pv, st, k, kx, wd, ss, hd, hk, hx⟩ := q
  refine tE_seq wd ss hx hd fun H1 G1 H1' st1 v1 r1 e1 wd1 ss1 rr1 k1 => ?_
  cases rr1 with
  | pk _ => exact k1.elim
  | w rv => cases rv with
    | bl => exact ⟨_, rfl, hk _ _ _ _ _ _ e1 wd1 ss1 (.w .bl) k1⟩
    | _ => exact k1.elim
end

/-! ### statements -/
section
variable {X : Cx} {Z : Zx} {E : XS} {e a b : Expr} {es : List Expr} {da db : DE} {ta tb : DT} {s : Stmt} {rest : List Stmt} {d d1 d2 : DS} {pos : Pos}
theorem tS_seq {K : PySem.W.Frag} {σ : L2.St} {H H0 F : Hp} {G : Fp} {pv : List V} {st : S} {DD : DEnds} {D : Ends} (wd : Wd H0 F G H) (ss : Sts K Z H0 pv σ st G) (hd : d DD st) (h : AccD K Z E F pv H0 DD D) : tS K Z E d D σ H := ⟨H0, F, G, pv, st, DD, wd, ss, hd, h⟩
theorem zs_nil : PZs X Z E [] dNext := pss_weak pss_nil fun D σ H q => by
  obtain ⟨H0, F, G, pv, st, DD, wd, ss, hd, ha⟩ := q
  exact ha.nx _ _ _ _ _ (Ex.refl _) wd ss hd
theorem zs_one (h : PZ X Z E s d) : PZs X Z E [s] d := pss_weak (pss_one h) fun _ _ _ q => q
theorem zs_cons (h1 : PZ X Z E s d1) (h2 : PZs X Z E rest d2) : PZs X Z E (s :: rest) (dSeq d1 d2) := by
  refine pss_weak (pss_cons h1 h2) fun D σ H q => ?_
  obtain ⟨H0, F, G, pv, st, DD, wd, ss, hd, ha⟩ := q
  refine tS_seq wd ss hd ⟨fun H1 G1 H1' σ1 st1 e1 wd1 ss1 k1 => ?_, ha.rt, ha.bk, ha.ct, ha.ex⟩
  exact tS_seq wd1 ss1 k1 (ha.up e1)
theorem z_pass : PZ X Z E (.Pass pos) dNext := ps_weak ps_pass fun D σ H q => by
  obtain ⟨H0, F, G, pv, st, DD, wd, ss, hd, ha⟩ := q
  exact ha.nx _ _ _ _ _ (Ex.refl _) wd ss hd
theorem z_brk : PZ X Z E (.Break pos) dBrk := ps_weak ps_break fun D σ H q => by
  obtain ⟨H0, F, G, pv, st, DD, wd, ss, hd, ha⟩ := q
  exact ha.bk _ _ _ _ _ (Ex.refl _) wd ss hd
theorem z_cont : PZ X Z E (.Continue pos) dCnt := ps_weak ps_continue fun D σ H q => by
  obtain ⟨H0, F, G, pv, st, DD, wd, ss, hd, ha⟩ := q
  exact ha.ct _ _ _ _ _ (Ex.refl _) wd ss hd
theorem z_expr (he : PD X Z E e da) (hs : swapsWith e none pos.line X.env = pure false := by rfl) : PZ X Z E (.Expr e pos) (dExpr da) := by
  refine ps_weak (ps_expr he hs) fun D σ H q => ?_
  obtain ⟨H0, F, G, pv, st, DD, wd, ss, hd, ha⟩ := q
  exact tE_seq wd ss ha.ex.at hd fun H1 G1 H1' st1 v r e1 wd1 ss1 rr k1 => ha.nx _ _ _ _ _ e1 wd1 ss1 k1
theorem z_retN : PZ X Z E (.Return none pos) dRetN := ps_weak ps_retN fun D σ H q => by
  obtain ⟨H0, F, G, pv, st, DD, wd, ss, hd, ha⟩ := q
  exact ha.rt _ [] _ _ _ _ _ _ (Ex.refl _) wd (.fz .non) ss hd
theorem Wd.perm {H0 F H : Hp} {G G' : Fp} (wd : Wd H0 F G H) (p : G'.Perm G) : Wd H0 F G' H :=
  ⟨wd.ex, wd.fr, fun q hq => wd.ow q (p.mem_iff.mp hq), (p.map _).nodup_iff.mpr wd.nd, fun q hq => wd.d0 q (p.mem_iff.mp hq), fun q hq => wd.dF q (p.mem_iff.mp hq), wd.d0F, wd.tb, fun q hq => wd.tn q (p.mem_iff.mp hq)⟩
theorem z_ret (he : PD X Z E e da) : PZ X Z E (.Return (some e) pos) (dRet da) := by
  refine ps_weak (ps_ret he) fun D σ H q => ?_
  obtain ⟨H0, F, G, pv, st, DD, wd, ss, hd, ha⟩ := q
  refine tE_seq wd ss ha.ex.at hd fun H1 G1 H1' st1 v r e1 wd1 ss1 rr k1 => ?_
  cases rr with
  | w rv => exact ha.rt _ [] _ _ _ _ _ _ e1 wd1 (.fz rv) ss1 k1
  | pk h =>
    rename_i i
    replace k1 : (match at' st1 i with | .lo t => DD.rt t (put st1 i .un) | _ => False) := k1
    cases q : at' st1 i with
    | un => rw [q] at k1; exact k1.elim
    | mp k t => rw [q] at k1; exact k1.elim
    | fr _ _ _ _ _ _ => rw [q] at k1; exact k1.elim
    | lo t =>
      rw [q] at k1
      obtain ⟨v', Gx, Ga, Gb, h1, h2, h3, _, h5⟩ := ss1.lo_at q
      rw [h] at h1; cases h1
      subst h3
      refine ha.rt _ Gx _ _ _ _ _ _ e1 (wd1.perm ?_) h2 h5 k1
      rw [← List.append_assoc]
      exact List.Perm.append_right _ List.perm_append_comm
theorem z_if {c : Expr} {as bs : List Stmt} (hc : PTD X Z E c ta) (h1 : PZs X Z E as d1) (h2 : PZs X Z E bs d2) : PZ X Z E (.If c as bs pos) (dIf ta d1 d2) := by
  refine ps_weak (ps_if hc h1 h2) fun D σ H q => ?_
  obtain ⟨H0, F, G, pv, st, DD, wd, ss, hd, ha⟩ := q
  refine tT_seq wd ss ha.ex.at hd fun H1 G1 H1' st1 c e1 wd1 ss1 k1 => ?_
  cases c with
  | true => exact iteT (tS_seq wd1 ss1 (k1.1 rfl) (ha.up e1))
  | false => exact iteF (tS_seq wd1 ss1 (k1.2 rfl) (ha.up e1))
theorem put_over : ∀ (st : S) (i : Nat) (x : Sl), st.length ≤ i → put st i x = st
  | [], _, _, _ => rfl
  | _ :: _, 0, _, h => absurd h (Nat.not_succ_le_zero _)
  | s :: l, i + 1, x, h => congrArg (s :: ·) (put_over l i x (Nat.le_of_succ_le_succ h))
/-- a frozen value stored in a slot -/
theorem sto_ok {K : PySem.W.Frag} {σ : L2.St} {H H0 F : Hp} {G : Fp} {pv : List V} {st : S} {i : Nat} {v : V} {w : W} {k : S → Prop} (wd : Wd H0 F G H) (ss : Sts K Z H0 pv σ st G) (r : Rep K Z H0 v w) (h : sto st i (.fz w) k) :
    ∃ G', Wd H0 F G' H ∧ Sts K Z H0 pv (σ.set i (some v)) (put st i (.lo (.fz w))) G' ∧ k (put st i (.lo (.fz w))) := by
  unfold sto at h
  have hn : ∀ n t, at' st i ≠ .mp n t := fun n t z => by rw [z] at h; exact h
  have h' : k (put st i (.lo (.fz w))) := by
    cases q : at' st i with
    | mp n t => exact absurd q (hn n t)
    | un => rw [q] at h; exact h
    | lo t => rw [q] at h; exact h
    | fr _ _ _ _ _ _ => rw [q] at h; exact h
  by_cases hl : i < st.length
  · obtain ⟨Ga, Gx, Gb, h1, h2⟩ := ss.store i hl hn
    subst h1
    refine ⟨Ga ++ Gb, wd.less, ?_, h'⟩
    have := h2 H0 v (.fz w) [] (Ex.refl _) (.fz r)
    rw [List.append_nil] at this
    exact this
  · refine ⟨G, wd, ?_, h'⟩
    rw [put_over _ _ _ (Nat.le_of_not_lt hl), List.set_eq_of_length_le (by rw [ss.length]; exact Nat.le_of_not_lt hl)]
    exact ss
theorem z_set {i : Nat} {x : Str} {pos' : Pos} (hN : X.N.Nodup) (hi : X.N[i]? = some x) (hx : Loc X.env.scope x) (he : PD X Z E e da) (hs : swapsWith e (some (.Name x pos')) pos.line X.env = pure false := by rfl) (hf : X.fn x = true ∨ X.env.scope.names.lookup x = some .local := by first | exact .inl rfl | exact .inr rfl | assumption) :
    PZ X Z E (.Assign [.Name x pos'] e pos) (dAsg i da) := by
  refine ps_weak (ps_set hN hi hx he hs hf) fun D σ H q => ?_
  obtain ⟨H0, F, G, pv, st, DD, wd, ss, hd, ha⟩ := q
  refine tE_seq wd ss ha.ex.at hd fun H1 G1 H1' st1 v r e1 wd1 ss1 rr k1 => ?_
  cases rr with
  | pk _ => exact k1.elim
  | w rv =>
    obtain ⟨G', wd2, ss2, k2⟩ := sto_ok wd1 ss1 rv k1
    exact ha.nx _ _ _ _ _ e1 wd2 ss2 k2
theorem z_aug {i : Nat} {x : Str} {op : Operator} {r : R2} {o : O2} {pos' : Pos} (hN : X.N.Nodup) (hi : X.N[i]? = some x) (hx : Loc X.env.scope x) (he : PD X Z E e da) (ho : OpR X (inplaceOp op) r) (hd : OpD X.K Z r o) (hf : X.fn x = true ∨ X.env.scope.names.lookup x = some .local := by first | exact .inl rfl | exact .inr rfl | assumption) :
    PZ X Z E (.AugAssign (.Name x pos') op e pos) (dAug i o da) := by
  refine ps_weak (ps_aug (ti := r) hN hi hx he ho hf) fun D σ H q => ?_
  obtain ⟨H0, F, G, pv, st, DD, wd, ss, hd', ha⟩ := q
  unfold dAug at hd'
  cases q : at' st i with
  | un => rw [q] at hd'; exact hd'.elim
  | mp n t => rw [q] at hd'; exact hd'.elim
  | fr _ _ _ _ _ _ => rw [q] at hd'; exact hd'.elim
  | lo t =>
    rw [q] at hd'
    cases t with
    | fz w1 =>
      obtain ⟨v1, G1, Ga, Gb, h1, h2, _⟩ := ss.lo_at q
      cases h2 with
      | fz r1 =>
      refine ⟨v1, h1, ?_⟩
      refine tE_seq wd ss ha.ex.at hd' fun H1 G1 H1' st1 v2 r2 e1 wd1 ss1 rr k1 => ?_
      cases q2 : r2.val st1 with
      | none => rw [q2] at k1; exact k1.elim
      | some w2 =>
        rw [q2] at k1
        refine hd H1 H1' v1 w1 v2 w2 _ _ wd1.ex (.fz (r1.mono e1)) (rr.peek ss1 wd1 q2) k1 fun H0' H' v w g rv kw => ?_
        obtain ⟨G', wd2, ss2, k2⟩ := sto_ok (wd1.grow g) (ss1.mono g.e0) rv kw
        exact ha.nx _ _ _ _ _ (e1.trans g.e0) wd2 ss2 k2
    | _ => exact hd'.elim
end
end Y
namespace Y
open PySem L2
open Evl (Ex)

/-! ### numbers -/
def oI (C : Int → Int → Prop) (g : Int → Int → W) : O2 := fun a b k => match a, b with
  | .int i, .int j => C i j ∧ k (g i j)
  | _, _ => False
def oI0 (g : Int → Int → W) : O2 := fun a b k => match a, b with
  | .int i, .int j => k (g i j)
  | _, _ => False
def oU (g : Int → W) : O1 := fun a k => match a with
  | .int i => k (g i)
  | _ => False
section
variable {K : PySem.W.Frag} {Z : Zx} {C : Int → Int → Prop} {gV : Int → Int → V} {gW : Int → Int → W}
theorem opd_I (hr : ∀ H i j, Rep K Z H (gV i j) (gW i j)) : OpD K Z (rI C gV) (oI C gW) := by
  intro H0 H v1 w1 v2 w2 k Q e r1 r2 o f
  cases w1 <;> first | exact o.elim | skip
  rename_i i
  cases w2 <;> first | exact o.elim | skip
  rename_i j
  exact ⟨i, j, r1.int_of, r2.int_of, o.1, f.same e (hr _ i j) o.2⟩
theorem opd_I0 (hr : ∀ H i j, Rep K Z H (gV i j) (gW i j)) : OpD K Z (rI0 gV) (oI0 gW) := by
  intro H0 H v1 w1 v2 w2 k Q e r1 r2 o f
  cases w1 <;> first | exact o.elim | skip
  rename_i i
  cases w2 <;> first | exact o.elim | skip
  rename_i j
  exact ⟨i, j, r1.int_of, r2.int_of, f.same e (hr _ i j) o⟩
theorem und_I {g : Int → V} {g' : Int → W} (hr : ∀ H i, Rep K Z H (g i) (g' i)) : UnD K Z (rU g) (oU g') := by
  intro H0 H v w k Q e r o f
  cases w <;> first | exact o.elim | skip
  rename_i i
  exact ⟨i, r.int_of, f.same e (hr _ i) o⟩
end
abbrev oAdd := oI0 fun i j => .int (i + j)
abbrev oSub := oI0 fun i j => .int (i - j)
abbrev oMul := oI CMulW fun i j => .int (i * j)
abbrev oDiv := oI CDivW fun i j => .int (i / j)
abbrev oMod := oI (fun _ j => 0 < j) fun i j => .int (i % j)
abbrev oPow := oI CPow fun i j => .int (i ^ j.toNat)
abbrev oLt := oI0 fun i j => .bl (decide (i < j))
abbrev oLe := oI0 fun i j => .bl (decide (i ≤ j))
abbrev oGt := oI0 fun i j => .bl (decide (j < i))
abbrev oGe := oI0 fun i j => .bl (decide (j ≤ i))
section
variable {X : Cx} {Z : Zx} {E : XS} {e a b c : Expr} {da db dc : DE} {pos : Pos}
theorem pd_add (ha : PD X Z E a da) (hb : PD X Z E b db) : PD X Z E (.BinOp a .Add b pos) (dOp oAdd da db) := pd_op op_add (opd_I0 fun _ _ _ => .int) ha hb
theorem pd_sub (ha : PD X Z E a da) (hb : PD X Z E b db) : PD X Z E (.BinOp a .Sub b pos) (dOp oSub da db) := pd_op op_sub (opd_I0 fun _ _ _ => .int) ha hb
theorem pd_mul (ha : PD X Z E a da) (hb : PD X Z E b db) : PD X Z E (.BinOp a .Mult b pos) (dOp oMul da db) := pd_op op_mulW (opd_I fun _ _ _ => .int) ha hb
theorem pd_div (ha : PD X Z E a da) (hb : PD X Z E b db) : PD X Z E (.BinOp a .FloorDiv b pos) (dOp oDiv da db) := pd_op op_fdivW (opd_I fun _ _ _ => .int) ha hb
theorem pd_mod (ha : PD X Z E a da) (hb : PD X Z E b db) : PD X Z E (.BinOp a .Mod b pos) (dOp oMod da db) := pd_op op_mod (opd_I fun _ _ _ => .int) ha hb
theorem pd_pow (ha : PD X Z E a da) (hb : PD X Z E b db) : PD X Z E (.BinOp a .Pow b pos) (dOp oPow da db) := pd_op op_pow (opd_I fun _ _ _ => .int) ha hb
theorem pd_neg (ha : PD X Z E a da) : PD X Z E (.UnaryOp .USub a pos) (dUn (oU fun i => .int (-i)) da) := pd_un un_neg (und_I fun _ _ => .int) ha
theorem ptd_lt (ha : PD X Z E a da) (hb : PD X Z E b db) : PTD X Z E (.Compare a [.Lt] [b] pos) (dTest (dOp oLt da db)) := ptd_cmp op_lt (opd_I0 fun _ _ _ => .bl) ha hb (nomark _)
theorem ptd_le (ha : PD X Z E a da) (hb : PD X Z E b db) : PTD X Z E (.Compare a [.LtE] [b] pos) (dTest (dOp oLe da db)) := ptd_cmp op_le (opd_I0 fun _ _ _ => .bl) ha hb (nomark _)
theorem ptd_gt (ha : PD X Z E a da) (hb : PD X Z E b db) : PTD X Z E (.Compare a [.Gt] [b] pos) (dTest (dOp oGt da db)) := ptd_cmp op_gt (opd_I0 fun _ _ _ => .bl) ha hb (nomark _)
theorem ptd_ge (ha : PD X Z E a da) (hb : PD X Z E b db) : PTD X Z E (.Compare a [.GtE] [b] pos) (dTest (dOp oGe da db)) := ptd_cmp op_ge (opd_I0 fun _ _ _ => .bl) ha hb (nomark _)
theorem pd_lt (ha : PD X Z E a da) (hb : PD X Z E b db) : PD X Z E (.Compare a [.Lt] [b] pos) (dOp oLt da db) := pd_cmp op_lt (opd_I0 fun _ _ _ => .bl) ha hb (nomark _)
theorem pd_le (ha : PD X Z E a da) (hb : PD X Z E b db) : PD X Z E (.Compare a [.LtE] [b] pos) (dOp oLe da db) := pd_cmp op_le (opd_I0 fun _ _ _ => .bl) ha hb (nomark _)
theorem pd_gt (ha : PD X Z E a da) (hb : PD X Z E b db) : PD X Z E (.Compare a [.Gt] [b] pos) (dOp oGt da db) := pd_cmp op_gt (opd_I0 fun _ _ _ => .bl) ha hb (nomark _)
theorem pd_ge (ha : PD X Z E a da) (hb : PD X Z E b db) : PD X Z E (.Compare a [.GtE] [b] pos) (dOp oGe da db) := pd_cmp op_ge (opd_I0 fun _ _ _ => .bl) ha hb (nomark _)
end

/-! ### == of data -/
mutual
/-- the plain data that a value is -/
def W.pd : W → Option PyData
  | .non => some .none
  | .bl b => some (.bool b)
  | .int i => some (.int i)
  | .str s => some (.str s)
  | .tup ws => (W.pds ws).map .tuple
  | .lst ws => (W.pds ws).map .list
  | _ => none
def W.pds : List W → Option (List PyData)
  | [] => some []
  | w :: ws => (W.pd w).bind fun d => (W.pds ws).map fun ds => d :: ds
end
section
variable {K : PySem.W.Frag} {Z : Zx} {H H0 : Hp}
mutual
theorem Rep.dp : ∀ (w : W) {v : V} {d : PyData}, Rep K Z H v w → w.pd = some d → Dp K H v d
  | .non, _, _, h, e => by cases h; cases e; exact .non
  | .bl b, _, _, h, e => by cases h; cases e; exact .bl _
  | .int b, _, _, h, e => by cases h; cases e; exact .int _
  | .str b, _, _, h, e => by cases h; cases e; exact .str _
  | .tup ws, _, _, h, e => by
    cases h with
    | tup hs r =>
      unfold W.pd at e
      obtain ⟨ds, h1, rfl⟩ := Option.map_eq_some_iff.mp e
      exact .tup hs (Reps.dp ws r h1)
  | .lst ws, _, _, h, e => by
    cases h with
    | lst hs r =>
      unfold W.pd at e
      obtain ⟨ds, h1, rfl⟩ := Option.map_eq_some_iff.mp e
      exact .lst (.of hs) (Reps.dp ws r h1)
  | .ty _, _, _, _, e => by simp [W.pd] at e
  | .scr _, _, _, _, e => by simp [W.pd] at e
  | .ob _, _, _, _, e => by simp [W.pd] at e
  | .dK _, _, _, _, e => by simp [W.pd] at e
  | .dT _, _, _, _, e => by simp [W.pd] at e
  | .dF _, _, _, _, e => by simp [W.pd] at e
  | .tp _, _, _, _, e => by simp [W.pd] at e
  | .ins _ _, _, _, _, e => by simp [W.pd] at e
  | .xc _ _, _, _, _, e => by simp [W.pd] at e
theorem Reps.dp : ∀ (ws : List W) {vs : List V} {ds : List PyData}, Reps K Z H vs ws → W.pds ws = some ds → DpAll K H vs ds
  | [], _, _, h, e => by cases h; simp [W.pds] at e; subst e; exact .nil
  | w :: ws, _, _, h, e => by
    cases h with
    | cons h r =>
      unfold W.pds at e
      obtain ⟨d, h1, e⟩ := Option.bind_eq_some_iff.mp e
      obtain ⟨ds, h2, rfl⟩ := Option.map_eq_some_iff.mp e
      exact .cons (Rep.dp w h h1) (Reps.dp ws r h2)
end
theorem RepP.dp {v : V} {w : W} {d : PyData} (h : RepP K Z H0 H v w) (ex : Ex H0 H) (e : w.pd = some d) : Dp K H v d := by
  cases h with
  | fz h => exact (h.mono ex).dp w e
  | lst h r => exact Rep.dp _ (Rep.lst (Z := Z) h (r.mono ex)) e
  | dK h r => simp [W.pd] at e
  | dT h r => simp [W.pd] at e
  | ins z h n r => simp [W.pd] at e
end
/-- a == b, a != b of plain data -/
def oEq : O2 := fun a b k => ∃ d e, a.pd = some d ∧ b.pd = some e ∧ SeqAt.shaped d = true ∧ SeqAt.shaped e = true ∧ k (.bl (PyData.eqv d e))
def oNe : O2 := fun a b k => ∃ d e, a.pd = some d ∧ b.pd = some e ∧ SeqAt.shaped d = true ∧ SeqAt.shaped e = true ∧ k (.bl (!PyData.eqv d e))
theorem opd_eq {K : PySem.W.Frag} {Z : Zx} : OpD K Z (rEqD K) oEq := by
  intro H0 H v1 w1 v2 w2 k Q e r1 r2 o f
  obtain ⟨d, d', h1, h2, s1, s2, q⟩ := o
  exact ⟨d, d', r1.dp e h1, r2.dp e h2, s1, s2, f.same e .bl q⟩
theorem opd_ne {K : PySem.W.Frag} {Z : Zx} : OpD K Z (rNeD K) oNe := by
  intro H0 H v1 w1 v2 w2 k Q e r1 r2 o f
  obtain ⟨d, d', h1, h2, s1, s2, q⟩ := o
  exact ⟨d, d', r1.dp e h1, r2.dp e h2, s1, s2, f.same e .bl q⟩
/-- is None, is not None -/
def oIsN : O1 := fun a k => match a with
  | .non => k (.bl true)
  | _ => k (.bl false)
def oNotN : O1 := fun a k => match a with
  | .non => k (.bl false)
  | _ => k (.bl true)
theorem RepP.isN {K : PySem.W.Frag} {Z : Zx} {H0 H : Hp} {v : V} {w : W} (h : RepP K Z H0 H v w) : (v = .non ↔ w = .non) := by
  constructor
  · rintro rfl
    cases h with | fz h => cases h; rfl
  · rintro rfl
    exact h.non_of
section
variable {X : Cx} {Z : Zx} {E : XS} {e a b c : Expr} {da db dc : DE} {pos : Pos}
theorem pd_eq (hu : X.A.units + 64 < cLine) (ha : PD X Z E a da) (hb : PD X Z E b db) : PD X Z E (.Compare a [.Eq] [b] pos) (dOp oEq da db) := pd_cmp (op_eqD hu) opd_eq ha hb (nomark _)
theorem pd_ne (hu : X.A.units + 64 < cLine) (ha : PD X Z E a da) (hb : PD X Z E b db) : PD X Z E (.Compare a [.NotEq] [b] pos) (dOp oNe da db) := pd_cmp (op_neD hu) opd_ne ha hb (nomark _)
theorem ptd_eq (hu : X.A.units + 64 < cLine) (ha : PD X Z E a da) (hb : PD X Z E b db) : PTD X Z E (.Compare a [.Eq] [b] pos) (dTest (dOp oEq da db)) := ptd_cmp (op_eqD hu) opd_eq ha hb (nomark _)
theorem ptd_ne (hu : X.A.units + 64 < cLine) (ha : PD X Z E a da) (hb : PD X Z E b db) : PTD X Z E (.Compare a [.NotEq] [b] pos) (dTest (dOp oNe da db)) := ptd_cmp (op_neD hu) opd_ne ha hb (nomark _)
theorem isN_ok {o : O1} {p : V → V} (hp : ∀ {H0 H v w k} {Q : VK}, Ex H0 H → RepP X.K Z H0 H v w → o w k → Fin X.K Z H0 H k Q → Q (p v) H) {σ : L2.St} {H : Hp} {Q : VK} (q : tE X.K Z E (dUn o da) σ H Q) : tE X.K Z E da σ H fun x H1 => Q (p x) H1 := by
  obtain ⟨H0, F, G, pv, st, k, kx, wd, ss, hd, hk, hx⟩ := q
  refine tE_seq wd ss hx hd fun H1 G1 H1' st1 v1 r1 e1 wd1 ss1 rr1 k1 => ?_
  cases q1 : r1.val st1 with
  | none => rw [q1] at k1; exact k1.elim
  | some w1 =>
    rw [q1] at k1
    exact hp wd1.ex (rr1.peek ss1 wd1 q1) k1 fun H0' H' v w g rv kw => hk _ _ _ _ _ _ (e1.trans g.e0) (wd1.grow g) (ss1.mono g.e0) (.w rv) kw
theorem isN_val {H0 H : Hp} {v : V} {w : W} {k : W → Prop} {Q : VK} (e : Ex H0 H) (r : RepP X.K Z H0 H v w) (h : oIsN w k) (f : Fin X.K Z H0 H k Q) : Q (.bl (decide (v = .non))) H := by
  by_cases z : w = .non
  · rw [decide_eq_true (r.isN.mpr z)]
    subst z
    exact f.same e .bl h
  · rw [decide_eq_false (fun q => z (r.isN.mp q))]
    refine f.same e .bl ?_
    cases w <;> first | exact h | exact absurd rfl z
theorem notN_val {H0 H : Hp} {v : V} {w : W} {k : W → Prop} {Q : VK} (e : Ex H0 H) (r : RepP X.K Z H0 H v w) (h : oNotN w k) (f : Fin X.K Z H0 H k Q) : Q (.bl (!decide (v = .non))) H := by
  by_cases z : w = .non
  · rw [decide_eq_true (r.isN.mpr z)]
    subst z
    exact f.same e .bl h
  · rw [decide_eq_false (fun q => z (r.isN.mp q))]
    refine f.same e .bl ?_
    cases w <;> first | exact h | exact absurd rfl z
theorem pd_isN {j pos'} (ha : PD X Z E a da) : PD X Z E (.Compare a [.Is] [.Constant .none j pos'] pos) (dUn oIsN da) := pe_weak (pe_cmp (pc_isN ha)) fun _ _ _ q => isN_ok isN_val q
theorem pd_notN {j pos'} (ha : PD X Z E a da) : PD X Z E (.Compare a [.IsNot] [.Constant .none j pos'] pos) (dUn oNotN da) := pe_weak (pe_cmp (pc_notN ha)) fun _ _ _ q => isN_ok notN_val q
theorem ptd_isN {j pos'} (ha : PD X Z E a da) : PTD X Z E (.Compare a [.Is] [.Constant .none j pos'] pos) (dTest (dUn oIsN da)) := pt_weak (pt_cmp (pc_isN ha)) fun _ _ _ q => dtest_ok (fun _ _ _ q => isN_ok isN_val q) q
theorem ptd_notN {j pos'} (ha : PD X Z E a da) : PTD X Z E (.Compare a [.IsNot] [.Constant .none j pos'] pos) (dTest (dUn oNotN da)) := pt_weak (pt_cmp (pc_notN ha)) fun _ _ _ q => dtest_ok (fun _ _ _ q => isN_ok notN_val q) q
end

/-! ### built-ins of numbers -/
def cAbs : OC := fun ws k => match ws with
  | [.int i] => k (.int (if i < 0 then -i else i))
  | _ => False
def cMax2 : OC := fun ws k => match ws with
  | [.int i, .int j] => k (.int (if j > i then j else i))
  | _ => False
def cMin2 : OC := fun ws k => match ws with
  | [.int i, .int j] => k (.int (if j < i then j else i))
  | _ => False
/-- len of a list, a tuple, a text -/
def cLen : OC := fun ws k => match ws with
  | [.lst xs] => k (.int xs.length)
  | [.scr xs] => k (.int xs.length)
  | [.tup xs] => k (.int xs.length)
  | [.str s] => s.length ≤ sizeLine ∧ k (.int s.length)
  | _ => False
/-- sum of whole numbers -/
def cSum : OC := fun ws k => ∃ ns : List Int, ws = [.lst (ns.map .int)] ∧ k (.int ns.sum)
section
variable {K : PySem.W.Frag} {Z : Zx}
theorem cd_abs : CallD K Z (fun xs H Q => ∃ i, xs = [.int i] ∧ Q (.int (if i < 0 then -i else i)) H) cAbs := by
  intro H0 H vs ws k Q e r c f
  unfold cAbs at c
  split at c
  · cases r with | cons r t => cases t; exact ⟨_, by rw [r.int_of], f.same e .int c⟩
  · exact c.elim
theorem cd_max2 : CallD K Z (fun xs H Q => ∃ i j, xs = [.int i, .int j] ∧ Q (.int (if j > i then j else i)) H) cMax2 := by
  intro H0 H vs ws k Q e r c f
  unfold cMax2 at c
  split at c
  · cases r with | cons r t => cases t with | cons r' t => cases t; exact ⟨_, _, by rw [r.int_of, r'.int_of], f.same e .int c⟩
  · exact c.elim
theorem cd_min2 : CallD K Z (fun xs H Q => ∃ i j, xs = [.int i, .int j] ∧ Q (.int (if j < i then j else i)) H) cMin2 := by
  intro H0 H vs ws k Q e r c f
  unfold cMin2 at c
  split at c
  · cases r with | cons r t => cases t with | cons r' t => cases t; exact ⟨_, _, by rw [r.int_of, r'.int_of], f.same e .int c⟩
  · exact c.elim
theorem cd_len : CallD K Z (fun xs H Q => ∃ x n, xs = [x] ∧ LenV K x H n ∧ Q (.int n) H) cLen := by
  intro H0 H vs ws k Q e r c f
  unfold cLen at c
  split at c
  · cases r with
    | cons r t =>
      cases t
      obtain ⟨p, xs, rfl, h, rs⟩ := r.lst_of e
      exact ⟨_, _, rfl, .inl ⟨_, .of h, rs.length.symm⟩, f.same e .int c⟩
  · cases r with
    | cons r t =>
      cases t
      obtain ⟨p, rfl, h⟩ := r.scr_of e
      exact ⟨_, _, rfl, .inl ⟨_, h, by rw [List.length_map]⟩, f.same e .int c⟩
  · cases r with
    | cons r t =>
      cases t
      obtain ⟨p, xs, rfl, h, rs⟩ := r.tup_of e
      exact ⟨_, _, rfl, .inr ⟨_, h, rs.length.symm⟩, f.same e .int c⟩
  · cases r with
    | cons r t =>
      cases t
      have z := r.str_of
      subst z
      exact ⟨_, _, rfl, ⟨c.1, rfl⟩, f.same e .int c.2⟩
  · exact c.elim
theorem cd_sum : CallD K Z (rSum K) cSum := by
  intro H0 H vs ws k Q e r c f
  obtain ⟨ns, rfl, c⟩ := c
  cases r with
  | cons r t =>
    cases t
    obtain ⟨p, xs, rfl, h, rs⟩ := r.lst_of e
    exact ⟨p, ns, rfl, by rw [← rs.ints_of]; exact .of h, f.same e .int c⟩
end
end Y
namespace Y
open PySem L2
open Evl (Ex)

/-! ### a new object in hand: it stands in the frame until it is frozen or owned -/
section
variable {H0 F H : Hp} {G : Fp} {p : Addr} {o o' : HO}
theorem Wd.free (wd : Wd H0 F G H) (hp : H p = none) : H0 p = none ∧ F p = none ∧ ∀ q ∈ G, q.1 ≠ p := by
  refine ⟨?_, ?_, fun q hq z => by have := wd.ow q hq; rw [z, hp] at this; cases this⟩
  · cases q : H0 p with
    | none => rfl
    | some u => rw [wd.ex p u q] at hp; cases hp
  · exact wd.fnone hp
theorem Wd.hand (wd : Wd H0 F G H) (hp : H p = none) (ho : tabQ o = none := by rfl) : Wd H0 (upd F p o) G (upd H p o) := by
  obtain ⟨h0, hF, hG⟩ := wd.free hp
  have nw : Ex H (upd H p o) := .new hp
  refine ⟨wd.ex.trans nw, fun a u e n => ?_, fun q hq => by rw [upd_ne (hG q hq)]; exact wd.ow q hq, wd.nd, wd.d0, fun q hq => by rw [upd_ne (hG q hq)]; exact wd.dF q hq, fun a u e => ?_, fun a u t e n => ?_, wd.tn⟩
  · by_cases z : a = p
    · subst z; rw [upd_same] at e ⊢; exact e
    · rw [upd_ne z] at e ⊢; exact wd.fr a u e n
  · rw [upd_ne (fun z => by rw [z, h0] at e; cases e)]; exact wd.d0F a u e
  · by_cases z : a = p
    · subst z; rw [upd_same] at e; cases e; rw [ho] at n; cases n
    · rw [upd_ne z] at e; exact (wd.tb a u t e n).up (Ex.refl _) (nw a)
theorem Wd.hand_write (wd : Wd H0 (upd F p o) G H) (hF : F p = none) (ho : tabQ o' = none := by rfl) : Wd H0 (upd F p o') G (upd H p o') := by
  have h0 : H0 p = none := by
    cases q : H0 p with
    | none => rfl
    | some u => have := wd.d0F p u q; rw [upd_same] at this; cases this
  have hG : ∀ q ∈ G, q.1 ≠ p := fun q hq z => by have := wd.dF q hq; rw [z, upd_same] at this; cases this
  refine ⟨fun a u e => ?_, fun a u e n => ?_, fun q hq => by rw [upd_ne (hG q hq)]; exact wd.ow q hq, wd.nd, wd.d0, fun q hq => by rw [upd_ne (hG q hq)]; have := wd.dF q hq; rw [upd_ne (hG q hq)] at this; exact this, fun a u e => ?_, fun a u t e n => ?_, wd.tn⟩
  · rw [upd_ne (fun z => by rw [z, h0] at e; cases e)]; exact wd.ex a u e
  · by_cases z : a = p
    · subst z; rw [upd_same] at e ⊢; exact e
    · rw [upd_ne z] at e ⊢; exact wd.fr a u (by rw [upd_ne z]; exact e) n
  · have ne : a ≠ p := fun z => by rw [z, h0] at e; cases e
    have := wd.d0F a u e
    rw [upd_ne ne] at this ⊢; exact this
  · by_cases z : a = p
    · subst z; rw [upd_same] at e; cases e; rw [ho] at n; cases n
    · rw [upd_ne z] at e; exact (wd.tb a u t (by rw [upd_ne z]; exact e) n).up (Ex.refl _) fun v hv => by rw [upd_ne z]; exact hv
theorem Wd.hand_at (wd : Wd H0 (upd F p o) G H) (ho : tabQ o = none := by rfl) : H p = some o := wd.fr p o upd_same ho
/-- frozen -/
theorem Wd.hand_fz (wd : Wd H0 (upd F p o) G H) (hF : F p = none) (ho : tabQ o = none := by rfl) : Wd (upd H0 p o) F G H ∧ Ex H0 (upd H0 p o) := by
  have h0 : H0 p = none := by
    cases q : H0 p with
    | none => rfl
    | some u => have := wd.d0F p u q; rw [upd_same] at this; cases this
  have hG : ∀ q ∈ G, q.1 ≠ p := fun q hq z => by have := wd.dF q hq; rw [z, upd_same] at this; cases this
  have nw : Ex H0 (upd H0 p o) := .new h0
  refine ⟨⟨fun a u e => ?_, fun a u e n => ?_, wd.ow, wd.nd, fun q hq => by rw [upd_ne (hG q hq)]; exact wd.d0 q hq, fun q hq => ?_, fun a u e => ?_, fun a u t e n => (wd.tb a u t (by rw [upd_ne (fun z => by rw [z, hF] at e; cases e)]; exact e) n).up nw (fun _ h => h), wd.tn⟩, nw⟩
  · by_cases z : a = p
    · subst z; rw [upd_same] at e; cases e; exact wd.hand_at ho
    · rw [upd_ne z] at e; exact wd.ex a u e
  · exact wd.fr a u (by rw [upd_ne (fun z => by rw [z, hF] at e; cases e)]; exact e) n
  · have := wd.dF q hq; rw [upd_ne (hG q hq)] at this; exact this
  · by_cases z : a = p
    · subst z; exact hF
    · rw [upd_ne z] at e
      have := wd.d0F a u e; rw [upd_ne z] at this; exact this
/-- owned -/
theorem Wd.hand_own (wd : Wd H0 (upd F p o) G H) (hF : F p = none) (ho : tabQ o = none := by rfl) : Wd H0 F ((p, o) :: G) H := by
  have h0 : H0 p = none := by
    cases q : H0 p with
    | none => rfl
    | some u => have := wd.d0F p u q; rw [upd_same] at this; cases this
  have hG : ∀ q ∈ G, q.1 ≠ p := fun q hq z => by have := wd.dF q hq; rw [z, upd_same] at this; cases this
  refine ⟨wd.ex, fun a u e n => ?_, fun q hq => ?_, ?_, fun q hq => ?_, fun q hq => ?_, fun a u e => ?_, fun a u t e n => wd.tb a u t (by rw [upd_ne (fun z => by rw [z, hF] at e; cases e)]; exact e) n, fun q hq => ?_⟩
  · exact wd.fr a u (by rw [upd_ne (fun z => by rw [z, hF] at e; cases e)]; exact e) n
  · rcases List.mem_cons.mp hq with rfl | h
    · exact wd.hand_at ho
    · exact wd.ow q h
  · rw [List.map_cons]
    refine List.nodup_cons.mpr ⟨fun z => ?_, wd.nd⟩
    obtain ⟨q, hq, e⟩ := List.mem_map.mp z
    exact hG q hq e
  · rcases List.mem_cons.mp hq with rfl | h
    · exact h0
    · exact wd.d0 q h
  · rcases List.mem_cons.mp hq with rfl | h
    · exact hF
    · have := wd.dF q h; rw [upd_ne (hG q h)] at this; exact this
  · have ne : a ≠ p := fun z => by rw [z, h0] at e; cases e
    have := wd.d0F a u e; rw [upd_ne ne] at this; exact this
  · rcases List.mem_cons.mp hq with rfl | h
    · exact ho
    · exact wd.tn q h
/-- owned ones become frozen -/
theorem Wd.own_fz {Ga Gb : Fp} (wd : Wd H0 F (Ga ++ [(p, o)] ++ Gb) H) : Wd (upd H0 p o) F (Ga ++ Gb) H ∧ Ex H0 (upd H0 p o) := by
  have hp : H p = some o := wd.ow (p, o) (by simp)
  have h0 : H0 p = none := wd.d0 (p, o) (by simp)
  have hF : F p = none := wd.dF (p, o) (by simp)
  have nd := wd.nd
  have ne : ∀ q ∈ Ga ++ Gb, q.1 ≠ p := fun q hq z => by
    rw [List.map_append, List.map_append, List.append_assoc, List.map_singleton] at nd
    have perm : (Ga.map (·.1) ++ ([p] ++ Gb.map (·.1))).Perm (p :: (Ga.map (·.1) ++ Gb.map (·.1))) := List.perm_middle
    have := (List.nodup_cons.mp (perm.nodup_iff.mp nd)).1
    rw [← List.map_append] at this
    exact this (List.mem_map.mpr ⟨q, hq, z⟩)
  have wd' := wd.less
  have nw : Ex H0 (upd H0 p o) := .new h0
  refine ⟨⟨fun a u e => ?_, wd'.fr, wd'.ow, wd'.nd, fun q hq => by rw [upd_ne (ne q hq)]; exact wd'.d0 q hq, wd'.dF, fun a u e => ?_, fun a u t e n => (wd'.tb a u t e n).up nw fun _ h => h, wd'.tn⟩, nw⟩
  · by_cases z : a = p
    · subst z; rw [upd_same] at e; cases e; exact hp
    · rw [upd_ne z] at e; exact wd.ex a u e
  · by_cases z : a = p
    · subst z; exact hF
    · rw [upd_ne z] at e; exact wd.d0F a u e
end

/-! ### fresh lists -/
abbrev DL := S → (List W → S → Prop) → KX → Prop
section
variable (K : PySem.W.Frag) (Z : Zx) (E : XS)
def AccL (F : Hp) (pv : List V) (σ : L2.St) (H0 : Hp) (k : List W → S → Prop) (Q : VK) : Prop :=
  ∀ H0' G' H' st' p xs ws, Ex H0 H0' → Wd H0' (upd F p (.lst xs)) G' H' → F p = none → Sts K Z H0' pv σ st' G' → Reps K Z H0' xs ws → k ws st' → Q (.ref p) H'
def tL (d : DL) : TE := fun σ H Q => ∃ H0 F G pv st k kx, Wd H0 F G H ∧ Sts K Z H0 pv σ st G ∧ d st k kx ∧ AccL K Z F pv σ H0 k Q ∧ AccXe K Z E F pv σ H0 kx
end
def PLD (X : Cx) (Z : Zx) (E : XS) (e : Expr) (d : DL) : Prop := PE X e (tL X.K Z E d)
/-- the list frozen, as a value -/
def dFz (d : DL) : DE := fun st k x => d st (fun ws st1 => k (.w (.lst ws)) st1) x
def stoT (st : S) (i : Nat) (t : T) (k : S → Prop) : Prop := match at' st i with
  | .mp _ _ => False
  | _ => k (put st i (.lo t))
/-- .. owned by a name, handed back as an own one -/
def dAsgO (i : Nat) (d : DL) : DS := fun D st => d st (fun ws st1 => stoT st1 i (.lst ws) D.nx) D.ex
def dRetO (d : DL) : DS := fun D st => d st (fun ws st1 => D.rt (.lst ws) st1) D.ex
def lDisp (a : DA) : DL := fun st k x => a st (fun rs st1 => match frs' rs with
  | some ws => ws.length ≤ sizeLine ∧ k ws st1
  | none => False) x
section
variable {X : Cx} {Z : Zx} {E : XS} {e a b : Expr} {es : List Expr} {da db : DE} {ds : DA} {dl : DL} {pos : Pos}
theorem pd_fz (h : PLD X Z E e dl) : PD X Z E e (dFz dl) := by
  refine pe_weak h fun σ H Q q => ?_
  obtain ⟨H0, F, G, pv, st, k, kx, wd, ss, hd, hk, hx⟩ := q
  refine ⟨H0, F, G, pv, st, _, kx, wd, ss, hd, fun H1 G1 H1' st1 p xs ws e1 wd1 hF ss1 rs k1 => ?_, hx⟩
  obtain ⟨wd2, e2⟩ := wd1.hand_fz hF
  exact hk _ _ _ _ _ _ (e1.trans e2) wd2 (ss1.mono e2) (.w (.lst upd_same (rs.mono e2))) k1
theorem tL_seq {K : PySem.W.Frag} {σ : L2.St} {H H0 F : Hp} {G : Fp} {pv : List V} {st : S} {kx : KX} {Q : VK} {k : List W → S → Prop} (wd : Wd H0 F G H) (ss : Sts K Z H0 pv σ st G) (hx : AccXe K Z E F pv σ H0 kx) (hd : dl st k kx)
    (h : ∀ H0' G' H' st' p xs ws, Ex H0 H0' → Wd H0' (upd F p (.lst xs)) G' H' → F p = none → Sts K Z H0' pv σ st' G' → Reps K Z H0' xs ws → k ws st' → Q (.ref p) H') : tL K Z E dl σ H Q := ⟨H0, F, G, pv, st, k, kx, wd, ss, hd, h, hx⟩
theorem pl_lst (h : PAD X Z E es ds) : PLD X Z E (.List es pos) (lDisp ds) := by
  refine pe_weak (pe_lst h) fun σ H Q q => ?_
  obtain ⟨H0, F, G, pv, st, k, kx, wd, ss, hd, hk, hx⟩ := q
  refine tA_seq wd ss hx hd fun H1 G1 H1' st1 vs rs e1 wd1 ss1 rr k1 => ?_
  cases q1 : frs' rs with
  | none => rw [q1] at k1; exact k1.elim
  | some ws =>
    rw [q1] at k1
    have r := rr.frs q1
    refine ⟨by rw [r.length]; exact k1.1, fun p hp => ?_⟩
    exact hk _ _ _ _ _ _ _ e1 (wd1.hand hp) (wd1.free hp).2.1 ss1 r k1.2
/-- a tuple of written items -/
def dTup (a : DA) : DE := fun st k x => a st (fun rs st1 => match frs' rs with
  | some ws => ws.length ≤ sizeLine ∧ k (.w (.tup ws)) st1
  | none => False) x
theorem pd_tup {x1} (h : PAD X Z E es ds) : PD X Z E (.Tuple es x1 pos) (dTup ds) := by
  refine pe_weak (pe_tup h) fun σ H Q q => ?_
  obtain ⟨H0, F, G, pv, st, k, kx, wd, ss, hd, hk, hx⟩ := q
  refine tA_seq wd ss hx hd fun H1 G1 H1' st1 vs rs e1 wd1 ss1 rr k1 => ?_
  cases q1 : frs' rs with
  | none => rw [q1] at k1; exact k1.elim
  | some ws =>
    rw [q1] at k1
    have r := rr.frs q1
    refine ⟨by rw [r.length]; exact k1.1, fun p hp => ?_⟩
    have g := Gr.one (o := .tup vs) wd1.ex hp
    exact hk _ _ _ _ _ _ (e1.trans g.e0) (wd1.grow g) (ss1.mono g.e0) (.w (.tup (.of upd_same) (r.mono g.e0))) k1.2
theorem stoT_ok {K : PySem.W.Frag} {σ : L2.St} {H H0 F : Hp} {G : Fp} {pv : List V} {st : S} {i : Nat} {v : V} {t : T} {Gv : Fp} {k : S → Prop} (wd : Wd H0 F (Gv ++ G) H) (ss : Sts K Z H0 pv σ st G) (r : RepT K Z H0 v t Gv) (h : stoT st i t k) :
    ∃ G', Wd H0 F G' H ∧ Sts K Z H0 pv (σ.set i (some v)) (put st i (.lo t)) G' ∧ k (put st i (.lo t)) := by
  unfold stoT at h
  have hn : ∀ n t, at' st i ≠ .mp n t := fun n t z => by rw [z] at h; exact h
  have h' : k (put st i (.lo t)) := by
    cases q : at' st i with
    | mp n t => exact absurd q (hn n t)
    | un => rw [q] at h; exact h
    | lo t => rw [q] at h; exact h
    | fr _ _ _ _ _ _ => rw [q] at h; exact h
  by_cases hl : i < st.length
  · obtain ⟨Ga, Gx, Gb, h1, h2⟩ := ss.store i hl hn
    subst h1
    refine ⟨Ga ++ Gv ++ Gb, ?_, h2 H0 v t Gv (Ex.refl _) r, h'⟩
    have w2 : Wd H0 F ((Gv ++ Ga) ++ Gx ++ Gb) H := by simpa only [List.append_assoc] using wd
    refine w2.less.perm ?_
    exact List.Perm.append_right _ List.perm_append_comm
  · refine ⟨G, ?_, ?_, h'⟩
    · have w2 : Wd H0 F ([] ++ Gv ++ G) H := wd
      exact w2.less
    · rw [put_over _ _ _ (Nat.le_of_not_lt hl), List.set_eq_of_length_le (by rw [ss.length]; exact Nat.le_of_not_lt hl)]
      exact ss
theorem z_setO {i : Nat} {x : Str} {pos' : Pos} (hN : X.N.Nodup) (hi : X.N[i]? = some x) (hx : Loc X.env.scope x) (he : PLD X Z E e dl) (hs : swapsWith e (some (.Name x pos')) pos.line X.env = pure false := by rfl) (hf : X.fn x = true ∨ X.env.scope.names.lookup x = some .local := by first | exact .inl rfl | exact .inr rfl | assumption) :
    PZ X Z E (.Assign [.Name x pos'] e pos) (dAsgO i dl) := by
  refine ps_weak (ps_set hN hi hx he hs hf) fun D σ H q => ?_
  obtain ⟨H0, F, G, pv, st, DD, wd, ss, hd, ha⟩ := q
  refine tL_seq wd ss ha.ex.at hd fun H1 G1 H1' st1 p xs ws e1 wd1 hF ss1 rs k1 => ?_
  obtain ⟨G', wd2, ss2, k2⟩ := stoT_ok (Gv := [(p, .lst xs)]) (wd1.hand_own hF) ss1 (.lst rs) k1
  exact ha.nx _ _ _ _ _ e1 wd2 ss2 k2
theorem z_retO (he : PLD X Z E e dl) : PZ X Z E (.Return (some e) pos) (dRetO dl) := by
  refine ps_weak (ps_ret he) fun D σ H q => ?_
  obtain ⟨H0, F, G, pv, st, DD, wd, ss, hd, ha⟩ := q
  refine tL_seq wd ss ha.ex.at hd fun H1 G1 H1' st1 p xs ws e1 wd1 hF ss1 rs k1 => ?_
  exact ha.rt _ [(p, .lst xs)] _ _ _ _ _ _ e1 (wd1.hand_own hF) (.lst rs) ss1 k1
end

/-! ### reading lists and tuples: an item, a slice -/
def W.seq : W → Option (List W)
  | .lst ws => some ws
  | .tup ws => some ws
  | _ => none
/-- xs[i] of a list or a tuple, xs[i] there -/
def oIx : O2 := fun a b k => match a.seq, b with
  | some ws, .int i => ∃ w, atI ws i = some w ∧ k w
  | _, _ => False
theorem Reps.atI {K : PySem.W.Frag} {Z : Zx} {H : Hp} {xs : List V} {ws : List W} {i : Int} {w : W} (r : Reps K Z H xs ws) (h : L2.atI ws i = some w) : ∃ v, L2.atI xs i = some v ∧ Rep K Z H v w := by
  unfold L2.atI at h ⊢
  rw [r.length]
  obtain ⟨j, h1, h2⟩ := Option.bind_eq_some_iff.mp h
  obtain ⟨v, h3, h4⟩ := r.get h2
  exact ⟨v, by rw [h1]; exact h3, h4⟩
theorem opd_ix {K : PySem.W.Frag} {Z : Zx} : OpD K Z (rIx K) oIx := by
  intro H0 H v1 w1 v2 w2 k Q e r1 r2 o f
  unfold oIx at o
  cases w1 with
  | lst ws =>
    cases w2 with
    | int i =>
      obtain ⟨w, h, kw⟩ := o
      obtain ⟨p, xs, rfl, hs, rs⟩ := r1.lst_of e
      obtain ⟨v, h1, h2⟩ := rs.atI h
      exact .inl ⟨p, xs, i, v, rfl, r2.int_of, .of hs, h1, f.same e h2 kw⟩
    | _ => exact o.elim
  | tup ws =>
    cases w2 with
    | int i =>
      obtain ⟨w, h, kw⟩ := o
      obtain ⟨p, xs, rfl, hs, rs⟩ := r1.tup_of e
      obtain ⟨v, h1, h2⟩ := rs.atI h
      exact .inr (.inl ⟨p, xs, i, v, rfl, r2.int_of, hs, h1, f.same e h2 kw⟩)
    | _ => exact o.elim
  | _ => cases w2 <;> exact o.elim
/-- part of a slice -/
abbrev DO := S → (Option Int → S → Prop) → KX → Prop
def oPart (d : DE) : DO := fun st k x => d st (fun r st1 => match r with
  | .w (.int i) => k (some i) st1
  | _ => False) x
def oNone : DO := fun st k _ => k none st
def cutW (xs : List W) (lo hi : Option Int) : List W := (xs.drop (HT.sIx xs.length 0 lo)).take (HT.sIx xs.length xs.length hi - HT.sIx xs.length 0 lo)
/-- xs[a:b] of a list: a new one -/
def lCut (d : DE) (lo hi : DO) : DL := fun st k x => d st (fun r st1 => lo st1 (fun l st2 => hi st2 (fun h st3 => match r.val st3 with
  | some (.lst ws) => k (cutW ws l h) st3
  | some (.scr ns) => k (cutW (ns.map .int) l h) st3
  | _ => False) x) x) x
section
variable (K : PySem.W.Frag) (Z : Zx) (E : XS)
def AccO (F : Hp) (pv : List V) (σ : L2.St) (H0 : Hp) (k : Option Int → S → Prop) (Q : Option Int → Hp → Prop) : Prop :=
  ∀ H0' G' H' st' o, Ex H0 H0' → Wd H0' F G' H' → Sts K Z H0' pv σ st' G' → k o st' → Q o H'
def tO (d : DO) : TO := fun σ H Q => ∃ H0 F G pv st k kx, Wd H0 F G H ∧ Sts K Z H0 pv σ st G ∧ d st k kx ∧ AccO K Z F pv σ H0 k Q ∧ AccXe K Z E F pv σ H0 kx
end
def POD (X : Cx) (Z : Zx) (E : XS) (e : Option Expr) (d : DO) : Prop := PO X e (tO X.K Z E d)
section
variable {X : Cx} {Z : Zx} {E : XS} {e a b : Expr} {es : List Expr} {da db : DE} {ds : DA} {dl : DL} {dlo dhi : DO} {lo hi : Option Expr} {pos p2 : Pos}
theorem po_weak {oe : Option Expr} {t t' : TO} (h : PO X oe t) (k : ∀ σ H Q, t' σ H Q → t σ H Q) : PO X oe t' := ⟨fun pins s σ H Q I q => h.run pins s σ H Q I (k σ H Q q)⟩
theorem pod_none : POD X Z E none oNone := po_weak po_none fun σ H Q q => by
  obtain ⟨H0, F, G, pv, st, k, kx, wd, ss, hd, hk, hx⟩ := q
  exact hk _ _ _ _ _ (Ex.refl _) wd ss hd
theorem pod_some (h : PD X Z E e da) : POD X Z E (some e) (oPart da) := po_weak (po_some h) fun σ H Q q => by
  obtain ⟨H0, F, G, pv, st, k, kx, wd, ss, hd, hk, hx⟩ := q
  refine tE_seq wd ss hx hd fun H1 G1 H1' st1 v r e1 wd1 ss1 rr k1 => ?_
  cases rr with
  | pk _ => exact k1.elim
  | w rv => cases rv with
    | int => exact ⟨_, rfl, hk _ _ _ _ _ e1 wd1 ss1 k1⟩
    | _ => exact k1.elim
theorem Reps.cut {K : PySem.W.Frag} {H : Hp} {xs : List V} {ws : List W} (r : Reps K Z H xs ws) (l h : Option Int) : Reps K Z H (cutV xs l h) (cutW ws l h) := by
  unfold cutV cutW
  rw [r.length]
  exact (r.drop _).take _
theorem pl_cut (he : PD X Z E e da) (hl : POD X Z E lo dlo) (hu : POD X Z E hi dhi) : PLD X Z E (.Subscript e (.Slice lo hi none p2) pos) (lCut da dlo dhi) := by
  refine pe_weak (pe_slice sl_list he hl hu) fun σ H Q q => ?_
  obtain ⟨H0, F, G, pv, st, k, kx, wd, ss, hd, hk, hx⟩ := q
  refine tE_seq wd ss hx hd fun H1 G1 H1' st1 v r e1 wd1 ss1 rr k1 => ?_
  refine ⟨H1, F, G1, pv, st1, _, kx, wd1, ss1, k1, fun H2 G2 H2' st2 l e2 wd2 ss2 k2 => ?_, hx.up e1⟩
  refine ⟨H2, F, G2, pv, st2, _, kx, wd2, ss2, k2, fun H3 G3 H3' st3 h e3 wd3 ss3 k3 => ?_, hx.up (e1.trans e2)⟩
  replace k3 : (match r.val st3 with | some (W.lst ws) => k (cutW ws l h) st3 | some (W.scr ns) => k (cutW (ns.map .int) l h) st3 | _ => False) := k3
  cases q1 : r.val st3 with
  | none => rw [q1] at k3; exact k3.elim
  | some w =>
    rw [q1] at k3
    cases w with
    | lst ws =>
      have rp := (rr.mono (e2.trans e3)).peek ss3 wd3 q1
      obtain ⟨p, xs, rfl, hs, rs⟩ := rp.lst_of wd3.ex
      refine ⟨p, xs, rfl, .of hs, fun p' hp => ?_⟩
      exact hk _ _ _ _ _ _ _ (e1.trans (e2.trans e3)) (wd3.hand hp) (wd3.free hp).2.1 ss3 (rs.cut l h) k3
    | scr ns =>
      have rp := (rr.mono (e2.trans e3)).peek ss3 wd3 q1
      obtain ⟨p, rfl, hs⟩ := rp.scr_of wd3.ex
      refine ⟨p, _, rfl, hs, fun p' hp => ?_⟩
      exact hk _ _ _ _ _ _ _ (e1.trans (e2.trans e3)) (wd3.hand hp) (wd3.free hp).2.1 ss3 ((Reps.map _ _ (fun _ => .int) ns).cut l h) k3
    | _ => exact k3.elim
end
end Y
namespace Y
open PySem L2
open Evl (Ex)

/-! ### slots forgotten -/
theorem put_length : ∀ (st : S) (i : Nat) (x : Sl), (put st i x).length = st.length
  | [], _, _ => rfl
  | _ :: _, 0, _ => rfl
  | _ :: l, i + 1, x => congrArg Nat.succ (put_length l i x)
theorem wipeS_length (st : S) : ∀ vs, (wipeS st vs).length = st.length
  | [] => rfl
  | v :: vs => by rw [wipeS, put_length, wipeS_length st vs]
theorem at_put : ∀ (st : S) (i j : Nat) (x : Sl), at' (put st i x) j = if i = j ∧ i < st.length then x else at' st j
  | [], i, j, x => by
    rw [if_neg (fun z => absurd z.2 (Nat.not_lt_zero _))]
    rfl
  | s :: l, 0, 0, x => by rw [if_pos ⟨rfl, Nat.succ_pos _⟩]; rfl
  | s :: l, 0, j + 1, x => by rw [if_neg (fun z => by cases z.1)]; rfl
  | s :: l, i + 1, 0, x => by rw [if_neg (fun z => by cases z.1)]; rfl
  | s :: l, i + 1, j + 1, x => by
    show at' (put l i x) j = _
    rw [at_put l i j x]
    by_cases h : i = j ∧ i < l.length
    · rw [if_pos h, if_pos ⟨congrArg Nat.succ h.1, Nat.succ_lt_succ h.2⟩]
    · rw [if_neg h, if_neg (fun z => h ⟨Nat.succ.inj z.1, Nat.lt_of_succ_lt_succ z.2⟩)]
      rfl
theorem at_over : ∀ (st : S) (j : Nat), st.length ≤ j → at' st j = .un
  | [], _, _ => rfl
  | _ :: _, 0, h => absurd h (Nat.not_succ_le_zero _)
  | _ :: l, j + 1, h => at_over l j (Nat.le_of_succ_le_succ h)
theorem at_wipe {st : S} : ∀ {vs : List Nat} {v : Nat}, v ∈ vs → at' (wipeS st vs) v = .un
  | u :: vs, v, h => by
    rw [wipeS, at_put]
    by_cases z : u = v ∧ u < (wipeS st vs).length
    · rw [if_pos z]
    · rw [if_neg z]
      rcases List.mem_cons.mp h with e | h
      · subst e
        exact at_over _ _ (Nat.le_of_not_lt fun q => z ⟨rfl, q⟩)
      · exact at_wipe h
section
variable {K : PySem.W.Frag} {Z : Zx} {H0 H F : Hp} {pv : List V}
/-- other values where the slots are not told -/
theorem Sts.alike : ∀ {σ st G σ'}, Sts K Z H0 pv σ st G → σ'.length = σ.length → (∀ j, at' st j = .un ∨ σ'[j]? = σ[j]?) → Sts K Z H0 pv σ' st G
  | _, _, _, [], .nil, _, _ => .nil
  | _, _, _, o' :: σ', .un h, hl, ha => .un (Sts.alike h (Nat.succ.inj hl) fun j => ha (j + 1))
  | _, _, _, o' :: σ', .lo (v := v) r h, hl, ha => by
    have e : o' = some v := by
      rcases ha 0 with z | z
      · cases z
      · exact Option.some.inj z
    subst e
    exact .lo r (Sts.alike h (Nat.succ.inj hl) fun j => ha (j + 1))
  | _, _, _, o' :: σ', .mp (v := v) p r h, hl, ha => by
    have e : o' = some v := by
      rcases ha 0 with z | z
      · cases z
      · exact Option.some.inj z
    subst e
    exact .mp p r (Sts.alike h (Nat.succ.inj hl) fun j => ha (j + 1))
  | _, _, _, o' :: σ', .fr (f := f) z r h, hl, ha => by
    have e : o' = some (.ref f) := by
      rcases ha 0 with z | z
      · cases z
      · exact Option.some.inj z
    subst e
    exact .fr z r (Sts.alike h (Nat.succ.inj hl) fun j => ha (j + 1))
theorem Sts.drop1 : ∀ {σ st G} (i : Nat), Sts K Z H0 pv σ st G → ∃ Ga Gx Gb, G = Ga ++ Gx ++ Gb ∧ Sts K Z H0 pv σ (put st i .un) (Ga ++ Gb)
  | _, _, _, i, .nil => ⟨[], [], [], rfl, .nil⟩
  | _, _, _, 0, .un (G := G) h => ⟨[], [], G, rfl, .un h⟩
  | _, _, _, 0, .lo (G1 := G1) (G2 := G2) r h => ⟨[], G1, G2, rfl, .un h⟩
  | _, _, _, 0, .mp (G1 := G1) (G2 := G2) p r h => ⟨[], G1, G2, rfl, .un h⟩
  | _, _, _, 0, .fr (G1 := G1) (G2 := G2) _ r h => ⟨[], G1, G2, rfl, .un h⟩
  | _, _, _, i + 1, .un h => by
    obtain ⟨Ga, Gx, Gb, h1, h2⟩ := Sts.drop1 i h
    exact ⟨Ga, Gx, Gb, h1, .un h2⟩
  | _, _, _, i + 1, .lo (G1 := Gy) r h => by
    obtain ⟨Ga, Gx, Gb, h1, h2⟩ := Sts.drop1 i h
    exact ⟨Gy ++ Ga, Gx, Gb, by rw [h1]; simp only [List.append_assoc], Sts.cast (.lo r h2) (by simp only [List.append_assoc])⟩
  | _, _, _, i + 1, .mp (G1 := Gy) p r h => by
    obtain ⟨Ga, Gx, Gb, h1, h2⟩ := Sts.drop1 i h
    exact ⟨Gy ++ Ga, Gx, Gb, by rw [h1]; simp only [List.append_assoc], Sts.cast (.mp p r h2) (by simp only [List.append_assoc])⟩
  | _, _, _, i + 1, .fr (G1 := Gy) z r h => by
    obtain ⟨Ga, Gx, Gb, h1, h2⟩ := Sts.drop1 i h
    exact ⟨Gy ++ Ga, Gx, Gb, by rw [h1]; simp only [List.append_assoc], Sts.cast (.fr z r h2) (by simp only [List.append_assoc])⟩
theorem Sts.dropAll {σ : L2.St} {st : S} {G : Fp} (wd : Wd H0 F G H) (ss : Sts K Z H0 pv σ st G) : ∀ vs, ∃ G', Wd H0 F G' H ∧ Sts K Z H0 pv σ (wipeS st vs) G'
  | [] => ⟨G, wd, ss⟩
  | v :: vs => by
    obtain ⟨G1, wd1, ss1⟩ := Sts.dropAll wd ss vs
    obtain ⟨Ga, Gx, Gb, h1, h2⟩ := ss1.drop1 v
    subst h1
    exact ⟨_, wd1.less, h2⟩
end
/-! ### targets -/
section
variable (K : PySem.W.Frag) (Z : Zx)
structure AccG (F : Hp) (pv : List V) (H0 : Hp) (k : S → Prop) (Q : L2.St → Hp → Prop) : Prop where
  tabs : TabF Z F
  run : AccS K Z F pv H0 k Q
instance {F : Hp} {pv : List V} {H0 : Hp} {k : S → Prop} {Q : L2.St → Hp → Prop} : CoeFun (AccG K Z F pv H0 k Q) (fun _ => AccS K Z F pv H0 k Q) := ⟨AccG.run⟩
def tG (g : DG) : TG := fun v σ H Q => ∃ H0 F G pv st w k, Wd H0 F G H ∧ Sts K Z H0 pv σ st G ∧ Rep K Z H0 v w ∧ g w st k ∧ AccG K Z F pv H0 k Q
def tGs (g : DGs) : TGs := fun vs σ H Q => ∃ H0 F G pv st ws k, Wd H0 F G H ∧ Sts K Z H0 pv σ st G ∧ Reps K Z H0 vs ws ∧ g ws st k ∧ AccG K Z F pv H0 k Q
end
def PGD (X : Cx) (Z : Zx) (e : Expr) (g : DG) : Prop := PG X e (tG X.K Z g)
def PGDs (X : Cx) (Z : Zx) (es : List Expr) (g : DGs) : Prop := PGs X es (tGs X.K Z g)
section
variable {X : Cx} {Z : Zx} {E : XS} {e a b : Expr} {es : List Expr} {da db : DE} {ds : DA} {dl : DL} {g : DG} {gs : DGs} {pos p2 : Pos}
theorem pg_weak {t t' : TG} (h : PG X e t) (k : ∀ v σ H Q, t' v σ H Q → t v σ H Q) : PG X e t' := ⟨fun pins s σ H v u Q I r q => h.run pins s σ H v u Q I r (k v σ H Q q)⟩
theorem pgs_weak {t t' : TGs} (h : PGs X es t) (k : ∀ v σ H Q, t' v σ H Q → t v σ H Q) : PGs X es t' := ⟨fun pins s σ H v u Q I r q => h.run pins s σ H v u Q I r (k v σ H Q q)⟩
theorem pgd_name {i : Nat} {x : Str} (hN : X.N.Nodup) (hi : X.N[i]? = some x) (hx : Loc X.env.scope x) (hf : X.fn x = true ∨ X.env.scope.names.lookup x = some .local := by first | exact .inl rfl | exact .inr rfl | assumption) : PGD X Z (.Name x pos) (gN i) := by
  refine pg_weak (pg_name hN hi hx hf) fun v σ H Q q => ?_
  obtain ⟨H0, F, G, pv, st, w, k, wd, ss, r, hg, hk⟩ := q
  obtain ⟨G', wd2, ss2, k2⟩ := sto_ok wd ss r hg
  exact hk _ _ _ _ _ (Ex.refl _) wd2 ss2 k2
theorem pgds_nil : PGDs X Z [] gsNil := by
  refine pgs_weak pgs_nil fun v σ H Q q => ?_
  obtain ⟨H0, F, G, pv, st, w, k, wd, ss, r, hg, hk⟩ := q
  obtain ⟨e, hg⟩ := hg
  subst e
  cases r
  exact ⟨rfl, hk _ _ _ _ _ (Ex.refl _) wd ss hg⟩
theorem pgds_cons (h1 : PGD X Z e g) (h2 : PGDs X Z es gs) (hs : (assignEach (e :: es) X.env).map (·.2) = assign e X.env :: (assignEach es X.env).map (·.2) := by rfl) : PGDs X Z (e :: es) (gsCons g gs) := by
  refine pgs_weak (pgs_cons h1 h2 hs) fun v σ H Q q => ?_
  obtain ⟨H0, F, G, pv, st, ws, k, wd, ss, r, hg, hk⟩ := q
  cases r with
  | nil => exact hg.elim
  | cons r rr =>
    refine ⟨_, _, rfl, H0, F, G, pv, st, _, _, wd, ss, r, hg, ⟨hk.tabs, fun H1 G1 H1' σ1 st1 e1 wd1 ss1 k1 => ?_⟩⟩
    exact ⟨H1, F, G1, pv, st1, _, _, wd1, ss1, rr.mono e1, k1, ⟨hk.tabs, hk.run.up e1⟩⟩
/-- the target asks for as many names as there are -/
def gTn (n : Nat) (gs : DGs) : DG := fun w st k => match w with
  | .tup ws => ws.length = n ∧ gs ws st k
  | _ => False
theorem pgd_tup {k : Nat} {n : Nat} (hc : X.calm = true) (h : PGDs X Z es gs) (hn : (assignEach es X.env).length = n := by rfl) (hst : (assignEach es X.env).findIdx? (·.1) = none := by rfl) : PGD X Z (.Tuple es k pos) (gTn n gs) := by
  refine pg_weak (pg_tup hc h hn hst) fun v σ H Q q => ?_
  obtain ⟨H0, F, G, pv, st, w, k, wd, ss, r, hg, hk⟩ := q
  unfold gTn at hg
  cases w with
  | tup ws =>
    cases r with
    | tup hs rs => exact ⟨_, _, rfl, Evl.ex_t wd.ex hs, by rw [rs.length]; exact hg.1, H0, F, G, pv, st, ws, k, wd, ss, rs, hg.2, hk⟩
  | _ => exact hg.elim
theorem z_asgG {tg : Expr} (he : PD X Z E e da) (hg : PGD X Z tg g) (hs : swapsWithSole [tg] e pos.line X.env = pure false := by rfl) (hw : swappedStores [tg] e X.env = pure none := by rfl)
    (h1 : (assignEach [tg] X.env).map (·.2) = [assign tg X.env] := by rfl) : PZ X Z E (.Assign [tg] e pos) (dAsgG g da) := by
  refine ps_weak (ps_asg he hg hs hw h1) fun D σ H q => ?_
  obtain ⟨H0, F, G, pv, st, DD, wd, ss, hd, ha⟩ := q
  refine tE_seq wd ss ha.ex.at hd fun H1 G1 H1' st1 v r e1 wd1 ss1 rr k1 => ?_
  cases rr with
  | pk _ => exact k1.elim
  | w rv => exact ⟨H1, F, G1, pv, st1, _, _, wd1, ss1, rv, k1, ⟨ha.ex.tabs, ha.nx.up e1⟩⟩
/-- a, b = x, y -/
def dPar (i j : Nat) (a : DA) : DS := fun D st => a st (fun rs st1 => match rs with
  | [.w x, .w y] => sto st1 i (.fz x) fun st2 => sto st2 j (.fz y) D.nx
  | _ => False) D.ex
theorem z_par {i j : Nat} {x y : Str} {px py pt : Pos} {kt k2 pt2} (hc : X.calm = true) (hN : X.N.Nodup) (hi : X.N[i]? = some x) (hj : X.N[j]? = some y) (hij : i ≠ j)
    (hx : X.env.scope.names.lookup x = some .local) (hy : X.env.scope.names.lookup y = some .local) (ha : PAD X Z E [a, b] ds)
    (hw : swappedStores [.Tuple [.Name x px, .Name y py] kt pt] (.Tuple [a, b] k2 pt2) X.env = pure (some [x, y]))
    (hs : swapsWithSole [.Tuple [.Name x px, .Name y py] kt pt] (.Tuple [a, b] k2 pt2) pos.line X.env = pure false := by rfl) :
    PZ X Z E (.Assign [.Tuple [.Name x px, .Name y py] kt pt] (.Tuple [a, b] k2 pt2) pos) (dPar i j ds) := by
  refine ps_weak (ps_par hc hN hi hj hij hx hy ha hw hs) fun D σ H q => ?_
  obtain ⟨H0, F, G, pv, st, DD, wd, ss, hd, ha⟩ := q
  refine tA_seq wd ss ha.ex.at hd fun H1 G1 H1' st1 vs rs e1 wd1 ss1 rr k1 => ?_
  cases rr with
  | nil => exact k1.elim
  | cons r1 rr =>
    cases rr with
    | nil => cases r1 <;> exact k1.elim
    | cons r2 rr =>
      cases rr with
      | cons r3 rr => cases r1 <;> cases r2 <;> exact k1.elim
      | nil =>
        cases r1 with
        | pk _ => cases r2 <;> exact k1.elim
        | w r1 =>
          cases r2 with
          | pk _ => exact k1.elim
          | w r2 =>
            obtain ⟨G', wd2, ss2, k2⟩ := sto_ok wd1 ss1 r1 k1
            obtain ⟨G'', wd3, ss3, k3⟩ := sto_ok wd2 ss2 r2 k2
            exact ⟨_, _, rfl, ha.nx _ _ _ _ _ e1 wd3 ss3 k3⟩
end

/-! ### what a loop walks -/
section
variable (K : PySem.W.Frag) (Z : Zx) (E : XS)
/-- the iterator yields these, one by one -/
def ItOk (H0 : Hp) (J : It) (ws : List W) : Prop := ∀ (i : Nat) (H Hc : Hp), Ex H0 Hc → Ex Hc H → (ws.length ≤ i → J.stop i H) ∧ ∀ w, ws[i]? = some w → J.go i H ∧ ∀ x H', J.yld i H x H' → ∃ Hc', Gr Hc H Hc' H' ∧ Rep K Z Hc' x w
def AccI (F : Hp) (pv : List V) (σ : L2.St) (H0 : Hp) (k : List W → S → Prop) (R : It → Hp → Prop) : Prop :=
  ∀ H0' G' H' st' J ws, Ex H0 H0' → Wd H0' F G' H' → Sts K Z H0' pv σ st' G' → ItOk K Z H0' J ws → k ws st' → R J H'
def tI (d : DI) : TI := fun σ H R => ∃ H0 F G pv st k kx, Wd H0 F G H ∧ Sts K Z H0 pv σ st G ∧ d st k kx ∧ AccI K Z F pv σ H0 k R ∧ AccXe K Z E F pv σ H0 kx
end
def PID (X : Cx) (Z : Zx) (E : XS) (tg e : Expr) (d : DI) : Prop := PI X tg e (tI X.K Z E d)
section
variable {X : Cx} {Z : Zx} {E : XS} {tg e a b : Expr} {es : List Expr} {da db : DE} {ds : DA} {dl : DL} {di : DI} {g : DG} {gs : DGs} {body : List Stmt} {d : DS} {ta : DT} {pos p2 : Pos}
theorem pi_weak {t t' : TI} (h : PI X tg e t) (k : ∀ σ H Q, t' σ H Q → t σ H Q) : PI X tg e t' := ⟨fun pins s σ H Q I q => h.run pins s σ H Q I (k σ H Q q)⟩
theorem it_list {K : PySem.W.Frag} {H0 : Hp} {a : Addr} {xs : List V} {ws : List W} (h : SqL K H0 a xs) (r : Reps K Z H0 xs ws) : ItOk K Z H0 (Itl K a) ws := fun i H Hc e e' => by
  have hs := Evl.ex_l (e.trans e') h
  refine ⟨fun hl => ⟨xs, hs, by rw [r.length]; exact hl⟩, fun w hw => ?_⟩
  obtain ⟨v, h1, h2⟩ := r.get hw
  refine ⟨⟨xs, v, hs, h1⟩, fun x H' y => ?_⟩
  obtain ⟨rfl, y⟩ := y
  have := y xs hs
  rw [h1] at this; cases this
  exact ⟨Hc, Gr.refl e', h2.mono e⟩
theorem it_tup {K : PySem.W.Frag} {H0 : Hp} {a : Addr} {xs : List V} {ws : List W} (h : SqT K H0 a xs) (r : Reps K Z H0 xs ws) : ItOk K Z H0 (Itt K a) ws := fun i H Hc e e' => by
  have hs := Evl.ex_t (e.trans e') h
  refine ⟨fun hl => ⟨xs, hs, by rw [r.length]; exact hl⟩, fun w hw => ?_⟩
  obtain ⟨v, h1, h2⟩ := r.get hw
  refine ⟨⟨xs, v, hs, h1⟩, fun x H' y => ?_⟩
  obtain ⟨rfl, y⟩ := y
  have := y xs hs
  rw [h1] at this; cases this
  exact ⟨Hc, Gr.refl e', h2.mono e⟩
theorem it_range {K : PySem.W.Frag} {H0 : Hp} (lo : Int) (n : Nat) : ItOk K Z H0 (Itr lo n) ((List.range n).map fun (i : Nat) => W.int (lo + i)) := fun i H Hc e e' => by
  refine ⟨fun hl => show n ≤ i by simpa using hl, fun w hw => ?_⟩
  rw [List.getElem?_map] at hw
  obtain ⟨j, h1, rfl⟩ := Option.map_eq_some_iff.mp hw
  obtain ⟨h2, h3⟩ := List.getElem?_eq_some_iff.mp h1
  rw [List.getElem_range] at h3
  subst h3
  refine ⟨show i < n by simpa using h2, fun x H' y => ?_⟩
  obtain ⟨rfl, rfl⟩ := y
  exact ⟨Hc, Gr.refl e', .int⟩
/-- over a list | a tuple, frozen -/
def iLst (d : DE) : DI := fun st k x => d st (fun r st1 => match r with
  | .w (.lst ws) => k ws st1
  | _ => False) x
def iTpl (d : DE) : DI := fun st k x => d st (fun r st1 => match r with
  | .w (.tup ws) => k ws st1
  | _ => False) x
def iRg1 (a : DA) : DI := fun st k x => a st (fun rs st1 => match rs with
  | [.w (.int j)] => (-(2 ^ 62) ≤ j ∧ j < 2 ^ 62) ∧ k ((List.range j.toNat).map fun (i : Nat) => .int (0 + i)) st1
  | _ => False) x
def iRg2 (a : DA) : DI := fun st k x => a st (fun rs st1 => match rs with
  | [.w (.int i), .w (.int j)] => (-(2 ^ 62) ≤ i ∧ i < 2 ^ 62 ∧ -(2 ^ 62) ≤ j ∧ j < 2 ^ 62) ∧ k ((List.range (j - i).toNat).map fun (n : Nat) => .int (i + n)) st1
  | _ => False) x
theorem pid_list (h : PD X Z E e da) : PID X Z E tg e (iLst da) := by
  refine pi_weak (pi_list h) fun σ H Q q => ?_
  obtain ⟨H0, F, G, pv, st, k, kx, wd, ss, hd, hk, hx⟩ := q
  refine tE_seq wd ss hx hd fun H1 G1 H1' st1 v r e1 wd1 ss1 rr k1 => ?_
  cases rr with
  | pk _ => exact k1.elim
  | w rv => cases rv with
    | lst hs rs => exact ⟨_, rfl, ⟨_, .of (wd1.ex _ _ hs)⟩, hk _ _ _ _ _ _ e1 wd1 ss1 (it_list (.of hs) rs) k1⟩
    | _ => exact k1.elim
theorem pid_tup (h : PD X Z E e da) : PID X Z E tg e (iTpl da) := by
  refine pi_weak (pi_tup h) fun σ H Q q => ?_
  obtain ⟨H0, F, G, pv, st, k, kx, wd, ss, hd, hk, hx⟩ := q
  refine tE_seq wd ss hx hd fun H1 G1 H1' st1 v r e1 wd1 ss1 rr k1 => ?_
  cases rr with
  | pk _ => exact k1.elim
  | w rv => cases rv with
    | tup hs rs => exact ⟨_, rfl, ⟨_, Evl.ex_t wd1.ex hs⟩, hk _ _ _ _ _ _ e1 wd1 ss1 (it_tup hs rs) k1⟩
    | _ => exact k1.elim
theorem pid_range1 {p pos : Pos} (hg : Gl X "range") (hm : X.mg "range" = none) (ha : PAD X Z E [a] ds) (hs : starEach [a] X.env = [(false, eval a X.env)] := by rfl) : PID X Z E tg (.Call (.Name "range" p) [a] [] pos) (iRg1 ds) := by
  refine pi_weak (pi_range1 hg hm ha hs) fun σ H Q q => ?_
  obtain ⟨H0, F, G, pv, st, k, kx, wd, ss, hd, hk, hx⟩ := q
  refine tA_seq wd ss hx hd fun H1 G1 H1' st1 vs rs e1 wd1 ss1 rr k1 => ?_
  cases rr with
  | nil => exact k1.elim
  | cons r rr =>
    cases rr with
    | cons r2 rr => cases r with
      | pk _ => exact k1.elim
      | w rv => cases rv <;> exact k1.elim
    | nil => cases r with
      | pk _ => exact k1.elim
      | w rv => cases rv with
        | int => exact ⟨_, rfl, k1.1.1, k1.1.2, hk _ _ _ _ _ _ e1 wd1 ss1 (it_range 0 _) k1.2⟩
        | _ => exact k1.elim
theorem pid_range2 {p pos : Pos} (hg : Gl X "range") (hm : X.mg "range" = none) (ha : PAD X Z E [a, b] ds) (hs : starEach [a, b] X.env = [(false, eval a X.env), (false, eval b X.env)] := by rfl) (hs2 : starEach [b] X.env = [(false, eval b X.env)] := by rfl) :
    PID X Z E tg (.Call (.Name "range" p) [a, b] [] pos) (iRg2 ds) := by
  refine pi_weak (pi_range2 hg hm ha hs hs2) fun σ H Q q => ?_
  obtain ⟨H0, F, G, pv, st, k, kx, wd, ss, hd, hk, hx⟩ := q
  refine tA_seq wd ss hx hd fun H1 G1 H1' st1 vs rs e1 wd1 ss1 rr k1 => ?_
  split at k1
  · cases rr with
    | cons r rr =>
      cases rr with
      | cons r2 rr =>
        cases rr
        cases r with
        | w rv =>
          cases rv
          cases r2 with
          | w rv =>
            cases rv
            exact ⟨_, _, rfl, k1.1, hk _ _ _ _ _ _ e1 wd1 ss1 (it_range _ _) k1.2⟩
  · exact k1.elim

/-! ### for -/
theorem z_for {fg : List Nat} (hp : PassesOwn (model X.prog X.w) X.A X.env X.xe) (hc : X.calm = true) (hi : PID X Z E tg e di) (hg : PGD X Z tg g) (hb : PZs X Z E body d)
    (hs : ∀ x, foldedSetIterable e X.env x = pure x := by intro _; rfl) : PZ X Z E (.For tg e body [] pos) (dFor fg di g d) := by
  refine ps_weak (ps_for hp hc hi hg hb hs) fun D σ H q => ?_
  obtain ⟨H0, F, G, pv, st, DD, wd, ss, hd, ha⟩ := q
  refine ⟨H0, F, G, pv, st, _, DD.ex, wd, ss, hd, fun H1 G1 H1' st1 J ws e1 wd1 ss1 it k1 => ?_, ha.ex.at⟩
  refine ⟨fun i m σ H => m = ws.length - i ∧ ∃ H2 G2 st2, Ex H1 H2 ∧ Wd H2 F G2 H ∧ Sts X.K Z H2 pv σ st2 G2 ∧ forW fg g d DD (ws.drop i) st2, ⟨_, rfl, H1, G1, st1, Ex.refl _, wd1, ss1, k1⟩, ?_⟩
  rintro i m σ2 H2' ⟨rfl, H2, G2, st2, e2, wd2, ss2, k2⟩
  obtain ⟨hstop, hgo⟩ := it i H2' H2 e2 wd2.ex
  obtain ⟨G2', wd2', ss2'⟩ := ss2.dropAll wd2 fg
  by_cases hl : ws.length ≤ i
  · refine .inl ⟨hstop hl, ?_⟩
    rw [List.drop_eq_nil_of_le hl] at k2
    exact ha.nx _ _ _ _ _ (e1.trans e2) wd2' ss2' k2
  · have hlt : i < ws.length := Nat.lt_of_not_le hl
    obtain ⟨go, step⟩ := hgo ws[i] (List.getElem?_eq_getElem hlt)
    refine .inr ⟨go, fun σ' H' => ∃ H3 G3 st3, Ex H1 H3 ∧ Wd H3 F G3 H' ∧ Sts X.K Z H3 pv σ' st3 G3 ∧ forW fg g d DD (ws.drop (i + 1)) st3, fun σ' H' ⟨H3, G3, st3, e3, wd3, ss3, k3⟩ => ⟨ws.length - (i + 1), by omega, rfl, H3, G3, st3, e3, wd3, ss3, k3⟩, fun x H' y => ?_⟩
    obtain ⟨Hc, gr, rx⟩ := step x H' y
    rw [List.drop_eq_getElem_cons hlt] at k2
    refine ⟨Hc, F, G2', pv, wipeS st2 fg, ws[i], _, wd2'.grow gr, ss2'.mono gr.e0, rx, k2, ⟨ha.ex.tabs, fun H4 G4 H4' σ4 st4 e4 wd4 ss4 k4 => ?_⟩⟩
    have e14 : Ex H1 H4 := e2.trans (gr.e0.trans e4)
    refine tS_seq wd4 ss4 k4 ⟨fun H5 G5 H5' σ5 st5 e5 wd5 ss5 k5 => ⟨H5, G5, st5, e14.trans e5, wd5, ss5, k5⟩, ha.rt.up (e1.trans e14), fun H5 G5 H5' σ5 st5 e5 wd5 ss5 k5 => ?_, fun H5 G5 H5' σ5 st5 e5 wd5 ss5 k5 => ⟨H5, G5, st5, e14.trans e5, wd5, ss5, k5⟩, ha.ex.up (e1.trans e14)⟩
    obtain ⟨G6, wd6, ss6⟩ := ss5.dropAll wd5 fg
    exact ha.nx _ _ _ _ _ (e1.trans (e14.trans e5)) wd6 ss6 k5
theorem z_while {c : Expr} {fg : List Nat} (hp : PassesOwn (model X.prog X.w) X.A X.env X.xe) (hc : PTD X Z E c ta) (hb : PZs X Z E body d) : PZ X Z E (.While c body [] pos) (dWhile fg ta d) := by
  refine ps_weak (ps_while hp hc hb) fun D σ H q => ?_
  obtain ⟨H0, F, G, pv, st, DD, wd, ss, hd, ha⟩ := q
  obtain ⟨P, ⟨m0, p0⟩, turn⟩ := hd
  obtain ⟨G0, wd0, ss0⟩ := ss.dropAll wd fg
  refine ⟨fun m σ H => ∃ H2 G2 st2, Ex H0 H2 ∧ Wd H2 F G2 H ∧ Sts X.K Z H2 pv σ st2 G2 ∧ P m st2, ⟨m0, H0, G0, _, Ex.refl _, wd0, ss0, p0⟩, ?_⟩
  rintro m σ2 H2' ⟨H2, G2, st2, e2, wd2, ss2, p2⟩
  refine tT_seq wd2 ss2 (ha.ex.up e2).at (turn m st2 p2) fun H3 G3 H3' st3 b e3 wd3 ss3 k3 => ?_
  have e03 := e2.trans e3
  have nxt : AccS X.K Z F pv H0 (fun st => DD.nx (wipeS st fg)) D.nx := fun H5 G5 H5' σ5 st5 e5 wd5 ss5 k5 => by
    obtain ⟨G6, wd6, ss6⟩ := ss5.dropAll wd5 fg
    exact ha.nx _ _ _ _ _ e5 wd6 ss6 k5
  have again : AccS X.K Z F pv H0 (fun st' => ∃ m', m' < m ∧ P m' (wipeS st' fg)) (fun σ' H' => ∃ m', m' < m ∧ ∃ H4 G4 st4, Ex H0 H4 ∧ Wd H4 F G4 H' ∧ Sts X.K Z H4 pv σ' st4 G4 ∧ P m' st4) := fun H5 G5 H5' σ5 st5 e5 wd5 ss5 ⟨m', hm, p5⟩ => by
    obtain ⟨G6, wd6, ss6⟩ := ss5.dropAll wd5 fg
    exact ⟨m', hm, H5, G6, _, e5, wd6, ss6, p5⟩
  cases b with
  | false => exact iteF (nxt.up e03 _ _ _ _ _ (Ex.refl _) wd3 ss3 (k3.2 rfl))
  | true =>
    refine iteT ⟨fun σ' H' => ∃ m', m' < m ∧ ∃ H4 G4 st4, Ex H0 H4 ∧ Wd H4 F G4 H' ∧ Sts X.K Z H4 pv σ' st4 G4 ∧ P m' st4, fun σ' H' q => q, ?_⟩
    exact tS_seq wd3 ss3 (k3.1 rfl) ⟨again.up e03, ha.rt.up e03, nxt.up e03, again.up e03, ha.ex.up e03⟩
end
end Y
namespace Y
open PySem L2
open Evl (Ex)

/-! ### slots forgotten -/
theorem wipe_get (σ : L2.St) (j : Nat) : ∀ vs, (wipe σ vs)[j]? = if j ∈ vs then (σ[j]?).map (fun _ => none) else σ[j]?
  | [] => by simp [wipe]
  | v :: vs => by
    unfold wipe
    rw [List.getElem?_set]
    by_cases h : v = j
    · subst h
      rw [if_pos rfl, if_pos (List.mem_cons_self), wipe_length]
      by_cases hl : v < σ.length
      · rw [if_pos hl, List.getElem?_eq_getElem hl]; rfl
      · rw [if_neg hl, List.getElem?_eq_none (Nat.le_of_not_lt hl)]; rfl
    · rw [if_neg h, wipe_get σ j vs]
      by_cases hm : j ∈ vs
      · rw [if_pos hm, if_pos (List.mem_cons_of_mem _ hm)]
      · rw [if_neg hm, if_neg (fun z => (List.mem_cons.mp z).elim (fun e => h e.symm) hm)]
theorem wipe_set {σ : L2.St} {i : Nat} {x : Option V} {vs : List Nat} (h : i ∈ vs) : wipe (σ.set i x) vs = wipe σ vs := by
  refine List.ext_getElem? fun j => ?_
  rw [wipe_get, wipe_get, List.getElem?_set]
  by_cases hm : j ∈ vs
  · rw [if_pos hm, if_pos hm]
    by_cases e : i = j
    · subst e
      rw [if_pos rfl]
      by_cases hl : i < σ.length
      · rw [if_pos hl, List.getElem?_eq_getElem hl]; rfl
      · rw [if_neg hl, List.getElem?_eq_none (Nat.le_of_not_lt hl)]
    · rw [if_neg e]
  · rw [if_neg hm, if_neg hm, if_neg (fun e => hm (by rw [← e]; exact h))]

/-! ### comprehensions -/
inductive CT where
  | one (i : Nat) | tup (is : List Nat)
def gsN : List Nat → DGs
  | [] => gsNil
  | i :: is => gsCons (gN i) (gsN is)
def CT.g : CT → DG
  | .one i => gN i
  | .tup is => gTn is.length (gsN is)
def CT.own : CT → List Nat
  | .one i => [i]
  | .tup is => is
def gNames : List Nat → TGs
  | [] => gNil
  | i :: is => gCons (gName i) (gNames is)
def CT.tg (K : PySem.W.Frag) : CT → TG
  | .one i => gName i
  | .tup is => gTup K is.length (gNames is)
def compW (ct : CT) (cond : DT) (elt : DE) : List W → List W → S → (List W → S → Prop) → Prop
  | [], acc, st, k => k acc st
  | w :: ws, acc, st, k => ct.g w st fun st1 => cond st1 (fun b st2 =>
      (b = true → elt st2 (fun r st3 => match r with
        | .w v => acc.length < sizeLine ∧ compW ct cond elt ws (acc ++ [v]) (wipeS st3 ct.own) k
        | .pk _ => False) (fun _ _ => False)) ∧
      (b = false → compW ct cond elt ws acc (wipeS st2 ct.own) k)) (fun _ _ => False)
/-- [elt for ct in src if cond] -/
def lComp (src : DI) (ct : CT) (cond : DT) (elt : DE) : DL := fun st k x => src st (fun ws st1 => compW ct cond elt ws [] (wipeS st1 ct.own) k) x
def tYes' : DT := fun st k _ => k true st
def PTsD (X : Cx) (Z : Zx) (E : XS) (es : List Expr) (d : DT) : Prop := PTs X es (tTs X.K Z E d)
section
variable {X : Cx} {Z : Zx} {E : XS} {tg e elt a b : Expr} {es ifs : List Expr} {da db de : DE} {ds : DA} {dl : DL} {di : DI} {g : DG} {gs : DGs} {body : List Stmt} {d : DS} {ta : DT} {pos p2 : Pos}
theorem pts_weak {t t' : TT} (h : PTs X es t) (k : ∀ σ H Q, t' σ H Q → t σ H Q) : PTs X es t' := ⟨fun pins s σ H Q I q => h.run pins s σ H Q I (k σ H Q q)⟩
theorem ptsd_nil : PTsD X Z E [] tYes' := by
  refine ⟨fun pins s σ H Q I q => ?_⟩
  obtain ⟨H0, F, G, pv, st, k, kx, wd, ss, hd, hk, hx⟩ := q
  exact pts_nil.run pins s σ H Q I (hk _ _ _ _ _ (Ex.refl _) wd ss hd)
theorem ptsd_one {c : Expr} (h : PTD X Z E c ta) : PTsD X Z E [c] ta := pts_one h
theorem gsN_ok {K : PySem.W.Frag} {F H0 H : Hp} {pv : List V} {Q : L2.St → Hp → Prop} : ∀ (is : List Nat) {own : List Nat} {xs : List V} {ws : List W} {σ : L2.St} {st : S} {G : Fp} {k : S → Prop}, (∀ i ∈ is, i ∈ own) → Wd H0 F G H → Sts K Z H0 pv σ st G → Reps K Z H0 xs ws → gsN is ws st k →
    (∀ σ2 st2 G2, Wd H0 F G2 H → Sts K Z H0 pv σ2 st2 G2 → wipe σ2 own = wipe σ own → σ2.length = σ.length → k st2 → Q σ2 H) → gNames is xs σ H Q
  | [], own, xs, ws, σ, st, G, k, ho, wd, ss, r, hg, hk => by
    obtain ⟨e, hg⟩ := hg
    subst e
    cases r
    exact ⟨rfl, hk _ _ _ wd ss rfl rfl hg⟩
  | i :: is, own, xs, ws, σ, st, G, k, ho, wd, ss, r, hg, hk => by
    cases r with
    | nil => exact hg.elim
    | cons r rr =>
      obtain ⟨G', wd2, ss2, k2⟩ := sto_ok (i := i) (k := fun st1 => gsN is _ st1 k) wd ss r hg
      refine ⟨_, _, rfl, gsN_ok is (fun j hj => ho j (List.mem_cons_of_mem _ hj)) wd2 ss2 rr k2 fun σ2 st2 G2 wd3 ss3 hw hl k3 => hk σ2 st2 G2 wd3 ss3 ?_ ?_ k3⟩
      · rw [hw, wipe_set (ho i List.mem_cons_self)]
      · rw [hl, List.length_set]
theorem ct_ok {K : PySem.W.Frag} {F H0 H : Hp} {pv : List V} {Q : L2.St → Hp → Prop} (ct : CT) {v : V} {w : W} {σ : L2.St} {st : S} {G : Fp} {k : S → Prop} (wd : Wd H0 F G H) (ss : Sts K Z H0 pv σ st G) (r : Rep K Z H0 v w) (hg : ct.g w st k)
    (hk : ∀ σ2 st2 G2, Wd H0 F G2 H → Sts K Z H0 pv σ2 st2 G2 → wipe σ2 ct.own = wipe σ ct.own → σ2.length = σ.length → k st2 → Q σ2 H) : ct.tg K v σ H Q := by
  cases ct with
  | one i =>
    obtain ⟨G', wd2, ss2, k2⟩ := sto_ok wd ss r hg
    exact hk _ _ _ wd2 ss2 (wipe_set (List.mem_singleton.mpr rfl)) (List.length_set ..) k2
  | tup is =>
    cases w with
    | tup ws =>
      replace hg : ws.length = is.length ∧ gsN is ws st k := hg
      cases r with
      | tup hs rs => exact ⟨_, _, rfl, Evl.ex_t wd.ex hs, by rw [rs.length]; exact hg.1, gsN_ok is (fun i hi => hi) wd ss rs hg.2 hk⟩
    | _ => exact hg.elim
theorem lc_ok {σ : L2.St} {H : Hp} {Q : VK} {ct : CT} (q : tL X.K Z E (lComp di ct ta de) σ H Q) : tLc (tI X.K Z E di) (ct.tg X.K) (tTs X.K Z E0s ta) (tE X.K Z E0s de) ct.own σ H Q := by
  obtain ⟨H0, F, G, pv, st, k, kx, wd, ss, hd, hk, hx⟩ := q
  refine ⟨H0, F, G, pv, st, _, kx, wd, ss, hd, fun H1 G1 H1' st1 J ws e1 wd1 ss1 it k1 => ?_, hx⟩
  intro D hD
  have hFD := (wd1.free hD).2.1
  obtain ⟨G1', wd1', ss1'⟩ := ss1.dropAll (wd1.hand (o := .lst []) hD) ct.own
  refine ⟨fun i m H => m = ws.length - i ∧ ∃ H2 G2 st2 aV aW, Ex H1 H2 ∧ Wd H2 (upd F D (.lst aV)) G2 H ∧ Sts X.K Z H2 pv σ st2 G2 ∧ (∀ v ∈ ct.own, at' st2 v = .un) ∧ Reps X.K Z H2 aV aW ∧ compW ct ta de (ws.drop i) aW st2 k,
    ⟨_, rfl, H1, G1', _, [], [], Ex.refl _, wd1', ss1', fun v hv => at_wipe hv, .nil, k1⟩, ?_⟩
  rintro i m H2' ⟨rfl, H2, G2, st2, aV, aW, e2, wd2, ss2, un2, ra, k2⟩
  obtain ⟨hstop, hgo⟩ := it i H2' H2 e2 wd2.ex
  by_cases hl : ws.length ≤ i
  · refine .inl ⟨hstop hl, ?_⟩
    rw [List.drop_eq_nil_of_le hl] at k2
    exact hk _ _ _ _ _ _ _ (e1.trans e2) wd2 hFD ss2 ra k2
  · have hlt : i < ws.length := Nat.lt_of_not_le hl
    obtain ⟨go, step⟩ := hgo ws[i] (List.getElem?_eq_getElem hlt)
    let Nx : Hp → Prop := fun H' => ∃ H3 G3 st3 bV bW, Ex H1 H3 ∧ Wd H3 (upd F D (.lst bV)) G3 H' ∧ Sts X.K Z H3 pv σ st3 G3 ∧ (∀ v ∈ ct.own, at' st3 v = .un) ∧ Reps X.K Z H3 bV bW ∧ compW ct ta de (ws.drop (i + 1)) bW st3 k
    refine .inr ⟨go, Nx, fun H' ⟨H3, G3, st3, bV, bW, e3, wd3, ss3, un3, rb, k3⟩ => ⟨ws.length - (i + 1), by omega, rfl, H3, G3, st3, bV, bW, e3, wd3, ss3, un3, rb, k3⟩, fun x H' y => ?_⟩
    obtain ⟨Hc, gr, rx⟩ := step x H' y
    rw [List.drop_eq_getElem_cons hlt] at k2
    have ssw : Sts X.K Z H2 pv (wipe σ ct.own) st2 G2 := ss2.alike (wipe_length _ _) fun j => by
      by_cases hj : j ∈ ct.own
      · exact .inl (un2 j hj)
      · exact .inr (by rw [wipe_get, if_neg hj])
    refine ct_ok ct (wd2.grow gr) (ssw.mono gr.e0) rx k2 fun σ3 st3 G3 wd3 ss3 hw hl3 k3 => ?_
    have hw' : wipe σ3 ct.own = wipe σ ct.own := by
      rw [hw]
      refine List.ext_getElem? fun j => ?_
      rw [wipe_get, wipe_get]
      by_cases hj : j ∈ ct.own
      · rw [if_pos hj, if_pos hj]; cases σ[j]? <;> rfl
      · rw [if_neg hj, if_neg hj]
        all_goals rfl
    have hl3' : σ3.length = σ.length := by rw [hl3, wipe_length]
    refine ⟨hw', ?_⟩
    have e1c : Ex H1 Hc := e2.trans gr.e0
    -- the turn's end
    have back : ∀ {H5 H5' : Hp} {G5 : Fp} {st5 : S} {o : HO}, Wd H5 (upd F D o) G5 H5' → Sts X.K Z H5 pv σ3 st5 G5 → ∃ G6, Wd H5 (upd F D o) G6 H5' ∧ Sts X.K Z H5 pv σ (wipeS st5 ct.own) G6 := fun {H5 H5' G5 st5 o} wd5 ss5 => by
      obtain ⟨G6, wd6, ss6⟩ := ss5.dropAll wd5 ct.own
      refine ⟨G6, wd6, ss6.alike hl3'.symm fun j => ?_⟩
      by_cases hj : j ∈ ct.own
      · exact .inl (at_wipe hj)
      · have := congrArg (fun l => l[j]?) hw'
        simp only [wipe_get, if_neg hj] at this
        exact .inr this.symm
    refine tT_seq wd3 ss3 (hx.noxU hFD) k3 fun H4 G4 H4' st4 b e4 wd4 ss4 k4 => ?_
    cases b with
    | false =>
      refine iteF ?_
      obtain ⟨G6, wd6, ss6⟩ := back wd4 ss4
      exact ⟨H4, G6, _, aV, aW, e1c.trans e4, wd6, ss6, fun v hv => at_wipe hv, ra.mono (gr.e0.trans e4), k4.2 rfl⟩
    | true =>
      refine iteT ?_
      refine tE_seq wd4 ss4 (hx.noxU hFD) (k4.1 rfl) fun H5 G5 H5' st5 v r e5 wd5 ss5 rr k5 => ?_
      cases rr with
      | pk _ => exact k5.elim
      | w rv =>
        have ra5 := ra.mono (gr.e0.trans (e4.trans e5))
        refine ⟨aV, wd5.hand_at, by rw [ra5.length]; exact k5.1, ?_⟩
        obtain ⟨G6, wd6, ss6⟩ := back (wd5.hand_write (o' := .lst (aV ++ [v])) hFD) ss5
        exact ⟨H5, G6, _, _, _, e1c.trans (e4.trans e5), wd6, ss6, fun v hv => at_wipe hv, ra5.append (.one rv), k5.2⟩
theorem pl_comp {ct : CT} {scope : Scope} {own : List (Str × Nat)} (hc : X.calm = true) (hN : X.N.Nodup) (hi : PID X Z E tg e di) (ok : BlkOk X.N X.env.scope scope own) (how : own.map (·.2) = ct.own)
    (hg : ∀ (s : Shared) (H : Hp) (C : Addr) (cl : List (Str × Addr)) (fp : List Addr), PG (X.blk s H scope (compEnvC scope cl C X.env) fp) tg (ct.tg X.K))
    (ht : ∀ (s : Shared) (H : Hp) (C : Addr) (cl : List (Str × Addr)) (fp : List Addr), PTsD (X.blk s H scope (compEnvC scope cl C X.env) fp) Z E0s ifs ta)
    (he : ∀ (s : Shared) (H : Hp) (C : Addr) (cl : List (Str × Addr)) (fp : List Addr), PD (X.blk s H scope (compEnvC scope cl C X.env) fp) Z E0s elt de) (hs : ∀ x, foldedSetIterable e X.env x = pure x := by intro _; rfl) :
    PLD X Z E (.ListComp elt [⟨tg, e, ifs, 0⟩] scope pos) (lComp di ct ta de) := by
  have ht' : ∀ (s : Shared) (H : Hp) (C : Addr) (cl : List (Str × Addr)) (fp : List Addr), PTs (X.blk s H scope (compEnvC scope cl C X.env) fp) ifs (tTs X.K Z E0s ta) := ht
  have he' : ∀ (s : Shared) (H : Hp) (C : Addr) (cl : List (Str × Addr)) (fp : List Addr), PE (X.blk s H scope (compEnvC scope cl C X.env) fp) elt (tE X.K Z E0s de) := he
  have := pe_lc (pos := pos) hc hN hi ok hg ht' he' hs
  rw [how] at this
  exact pe_weak this fun _ _ _ => lc_ok
/-- name = [..] on one line, the name a local of the def: frozen | owned -/
theorem z_setLc {i : Nat} {y : Str} {py spos : Pos} {ct : CT} {scope : Scope} {own : List (Str × Nat)} (hc : X.calm = true) (hN : X.N.Nodup) (hy : X.N[i]? = some y) (hyl : X.env.scope.names.lookup y = some .local)
    (hsw : swapsWith (.ListComp elt [⟨tg, e, ifs, 0⟩] scope pos) (some (.Name y py)) spos.line X.env = pure true) (hi : PID X Z E tg e di) (ok : BlkOk X.N X.env.scope scope own) (how : own.map (·.2) = ct.own)
    (hg : ∀ (s : Shared) (H : Hp) (C : Addr) (cl : List (Str × Addr)) (fp : List Addr), PG (X.blk s H scope (compEnvC scope cl C X.env) fp) tg (ct.tg X.K))
    (ht : ∀ (s : Shared) (H : Hp) (C : Addr) (cl : List (Str × Addr)) (fp : List Addr), PTsD (X.blk s H scope (compEnvC scope cl C X.env) fp) Z E0s ifs ta)
    (he : ∀ (s : Shared) (H : Hp) (C : Addr) (cl : List (Str × Addr)) (fp : List Addr), PD (X.blk s H scope (compEnvC scope cl C X.env) fp) Z E0s elt de) (hs : ∀ x, foldedSetIterable e X.env x = pure x := by intro _; rfl) :
    PZ X Z E (.Assign [.Name y py] (.ListComp elt [⟨tg, e, ifs, 0⟩] scope pos) spos) (dAsg i (dFz (lComp di ct ta de))) := by
  have ht' : ∀ (s : Shared) (H : Hp) (C : Addr) (cl : List (Str × Addr)) (fp : List Addr), PTs (X.blk s H scope (compEnvC scope cl C X.env) fp) ifs (tTs X.K Z E0s ta) := ht
  have he' : ∀ (s : Shared) (H : Hp) (C : Addr) (cl : List (Str × Addr)) (fp : List Addr), PE (X.blk s H scope (compEnvC scope cl C X.env) fp) elt (tE X.K Z E0s de) := he
  have := ps_setLc hc hN hy hyl hsw hi ok hg ht' he' hs
  rw [how] at this
  refine ps_weak this fun D σ H q => ?_
  obtain ⟨H0, F, G, pv, st, DD, wd, ss, hd, ha⟩ := q
  refine lc_ok (tL_seq wd ss ha.ex.at hd fun H1 G1 H1' st1 p xs ws e1 wd1 hF ss1 rs k1 => ?_)
  obtain ⟨wd2, e2⟩ := wd1.hand_fz hF
  obtain ⟨G', wd3, ss3, k3⟩ := sto_ok wd2 (ss1.mono e2) (Rep.lst upd_same (rs.mono e2)) k1
  exact ha.nx _ _ _ _ _ (e1.trans e2) wd3 ss3 k3
theorem z_setLcO {i : Nat} {y : Str} {py spos : Pos} {ct : CT} {scope : Scope} {own : List (Str × Nat)} (hc : X.calm = true) (hN : X.N.Nodup) (hy : X.N[i]? = some y) (hyl : X.env.scope.names.lookup y = some .local)
    (hsw : swapsWith (.ListComp elt [⟨tg, e, ifs, 0⟩] scope pos) (some (.Name y py)) spos.line X.env = pure true) (hi : PID X Z E tg e di) (ok : BlkOk X.N X.env.scope scope own) (how : own.map (·.2) = ct.own)
    (hg : ∀ (s : Shared) (H : Hp) (C : Addr) (cl : List (Str × Addr)) (fp : List Addr), PG (X.blk s H scope (compEnvC scope cl C X.env) fp) tg (ct.tg X.K))
    (ht : ∀ (s : Shared) (H : Hp) (C : Addr) (cl : List (Str × Addr)) (fp : List Addr), PTsD (X.blk s H scope (compEnvC scope cl C X.env) fp) Z E0s ifs ta)
    (he : ∀ (s : Shared) (H : Hp) (C : Addr) (cl : List (Str × Addr)) (fp : List Addr), PD (X.blk s H scope (compEnvC scope cl C X.env) fp) Z E0s elt de) (hs : ∀ x, foldedSetIterable e X.env x = pure x := by intro _; rfl) :
    PZ X Z E (.Assign [.Name y py] (.ListComp elt [⟨tg, e, ifs, 0⟩] scope pos) spos) (dAsgO i (lComp di ct ta de)) := by
  have ht' : ∀ (s : Shared) (H : Hp) (C : Addr) (cl : List (Str × Addr)) (fp : List Addr), PTs (X.blk s H scope (compEnvC scope cl C X.env) fp) ifs (tTs X.K Z E0s ta) := ht
  have he' : ∀ (s : Shared) (H : Hp) (C : Addr) (cl : List (Str × Addr)) (fp : List Addr), PE (X.blk s H scope (compEnvC scope cl C X.env) fp) elt (tE X.K Z E0s de) := he
  have := ps_setLc hc hN hy hyl hsw hi ok hg ht' he' hs
  rw [how] at this
  refine ps_weak this fun D σ H q => ?_
  obtain ⟨H0, F, G, pv, st, DD, wd, ss, hd, ha⟩ := q
  refine lc_ok (tL_seq wd ss ha.ex.at hd fun H1 G1 H1' st1 p xs ws e1 wd1 hF ss1 rs k1 => ?_)
  obtain ⟨G', wd2, ss2, k2⟩ := stoT_ok (Gv := [(p, .lst xs)]) (wd1.hand_own hF) ss1 (.lst rs) k1
  exact ha.nx _ _ _ _ _ e1 wd2 ss2 k2
end
end Y
namespace Y
open PySem L2
open Evl (Ex)

/-! ### dicts on data -/
def W.key : W → Option Key
  | .int i => some (.inl i)
  | .str s => some (.inr s)
  | _ => none
section
variable {κ α : Type} [DecidableEq κ]
def lk (kvs : List (κ × α)) (k : κ) : Option α := (kvs.find? fun kv => decide (kv.1 = k)).map (·.2)
def pt (kvs : List (κ × α)) (k : κ) (v : α) : List (κ × α) :=
  if (kvs.any fun kv => decide (kv.1 = k)) = true then kvs.map (fun kv => if kv.1 = k then (kv.1, v) else kv) else kvs ++ [(k, v)]
def dp (kvs : List (κ × α)) (k : κ) : List (κ × α) := kvs.filter fun kv => decide (kv.1 ≠ k)
theorem lk_nil (k : κ) : lk ([] : List (κ × α)) k = none := rfl
theorem lk_pos {p : κ × α} {r : List (κ × α)} {k : κ} (e : p.1 = k) : lk (p :: r) k = some p.2 := by simp [lk, List.find?_cons, e]
theorem lk_neg {p : κ × α} {r : List (κ × α)} {k : κ} (e : ¬ p.1 = k) : lk (p :: r) k = lk r k := by simp [lk, List.find?_cons, e]
end
section
variable {K : PySem.W.Frag} {Z : Zx} {H : Hp}
theorem RepK.lk {k : Key} : ∀ {kvs ws}, RepK K Z H kvs ws → match Y.lk ws k with
    | some w => ∃ v, valV kvs k = some v ∧ Rep K Z H v w
    | none => valV kvs k = none
  | _, _, .nil => rfl
  | _, _, .cons (k := k') (v := v) (w := w) (vs := vs) (ws := ws) r t => by
    by_cases e : k' = k
    · rw [lk_pos (p := (k', w)) e, valV_pos (p := (k', v)) e]; exact ⟨v, rfl, r⟩
    · rw [lk_neg (p := (k', w)) e, valV_neg (p := (k', v)) e]; exact RepK.lk t
theorem RepK.some {k : Key} {kvs ws w} (r : RepK K Z H kvs ws) (h : Y.lk ws k = some w) : ∃ v, valV kvs k = some v ∧ Rep K Z H v w := by
  have := r.lk (k := k)
  rw [h] at this; exact this
theorem RepK.none {k : Key} {kvs ws} (r : RepK K Z H kvs ws) (h : Y.lk ws k = none) : valV kvs k = none := by
  have := r.lk (k := k)
  rw [h] at this; exact this
theorem RepK.any {k : Key} : ∀ {kvs ws}, RepK K Z H kvs ws → (kvs.any fun kv => decide (kv.1 = k)) = ws.any fun kv => decide (kv.1 = k)
  | _, _, .nil => rfl
  | _, _, .cons r t => by rw [List.any_cons, List.any_cons, RepK.any t]
theorem RepK.repl {k : Key} {y : V} {u : W} (ry : Rep K Z H y u) : ∀ {kvs ws}, RepK K Z H kvs ws → RepK K Z H (kvs.map fun kv => if kv.1 = k then (kv.1, y) else kv) (ws.map fun kv => if kv.1 = k then (kv.1, u) else kv)
  | _, _, .nil => .nil
  | _, _, .cons (k := k') r t => by
    rw [List.map_cons, List.map_cons]
    by_cases e : k' = k
    · rw [if_pos e, if_pos e]; exact .cons ry (RepK.repl ry t)
    · rw [if_neg e, if_neg e]; exact .cons r (RepK.repl ry t)
theorem RepK.snoc {k : Key} {y : V} {u : W} (ry : Rep K Z H y u) : ∀ {kvs ws}, RepK K Z H kvs ws → RepK K Z H (kvs ++ [(k, y)]) (ws ++ [(k, u)])
  | _, _, .nil => .cons ry .nil
  | _, _, .cons r t => .cons r (RepK.snoc ry t)
theorem RepK.put {k : Key} {y : V} {u : W} {kvs ws} (r : RepK K Z H kvs ws) (ry : Rep K Z H y u) : RepK K Z H (putK kvs k y) (pt ws k u) := by
  unfold putK pt
  rw [r.any (k := k)]
  by_cases e : (ws.any fun kv => decide (kv.1 = k)) = true
  · rw [if_pos e, if_pos e]; exact r.repl ry
  · rw [if_neg e, if_neg e]; exact r.snoc ry
theorem RepK.drop {k : Key} : ∀ {kvs ws}, RepK K Z H kvs ws → RepK K Z H (dropK kvs k) (dp ws k)
  | _, _, .nil => .nil
  | _, _, .cons (k := k') (v := v) (w := w) (vs := vs) (ws := ws) r t => by
    have ih := RepK.drop (k := k) t
    unfold dropK dp at ih ⊢
    rw [List.filter_cons, List.filter_cons]
    by_cases e : k' = k
    · have a : ¬ decide (k' ≠ k) = true := by simp [e]
      rw [if_neg a, if_neg a]; exact ih
    · have a : decide (k' ≠ k) = true := by simp [e]
      rw [if_pos a, if_pos a]; exact .cons r ih
theorem rep_key {v : V} {w : W} {k : Key} (h : Rep K Z H v w) (e : w.key = some k) : v = kV k := by
  cases h <;> first | (cases e; rfl) | (simp [W.key] at e)
end
theorem RepP.key_of {K : PySem.W.Frag} {Z : Zx} {H0 H : Hp} {v : V} {w : W} {k : Key} (h : RepP K Z H0 H v w) (e : w.key = some k) : v = kV k := by
  cases h with
  | fz h => exact rep_key h e
  | _ => simp [W.key] at e
theorem RepP.dK_of {K : PySem.W.Frag} {Z : Zx} {H0 H : Hp} {v : V} {ws} (h : RepP K Z H0 H v (.dK ws)) (e : Ex H0 H) : ∃ p kvs, v = .ref p ∧ Rd H p (.dK kvs) ∧ RepK K Z H0 kvs ws := by
  cases h with
  | fz h => cases h with | dK h r => exact ⟨_, _, rfl, Evl.ex_rd e h, r⟩
  | dK h r => exact ⟨_, _, rfl, .of h, r⟩
/-- a dict that is read -/
def W.dic : W → Option (List (Key × W))
  | .dK kvs => some kvs
  | .dF kvs => some kvs
  | _ => none
theorem RepP.dic_of {K : PySem.W.Frag} {Z : Zx} {H0 H : Hp} {v : V} {w : W} {ws} (h : RepP K Z H0 H v w) (e : Ex H0 H) (hd : w.dic = some ws) : ∃ p kvs, v = .ref p ∧ Rd H p (.dK kvs) ∧ RepK K Z H0 kvs ws := by
  cases w with
  | dK kvs => cases hd; exact h.dK_of e
  | dF kvs =>
    cases hd
    cases h with
    | fz h => cases h with | dF h r => exact ⟨_, _, rfl, .inr ⟨_, e _ _ h⟩, r⟩
  | _ => cases hd
/-- d[k] there; k in d; k not in d -/
def oDGet : O2 := fun a b k => match a.dic, b.key with
  | some kvs, some key => ∃ w, lk kvs key = some w ∧ k w
  | _, _ => False
def oDIn : O2 := fun b a k => match a.dic, b.key with
  | some kvs, some key => k (.bl (lk kvs key).isSome)
  | _, _ => False
def oDNotIn : O2 := fun b a k => match a.dic, b.key with
  | some kvs, some key => k (.bl (!(lk kvs key).isSome))
  | _, _ => False
def rDGet : R2 := fun x y H Q => ∃ a v, x = .ref a ∧ DGet H a y (some v) ∧ Q v H
def rDIn : R2 := fun y x H Q => ∃ a o, x = .ref a ∧ DGet H a y o ∧ Q (.bl o.isSome) H
def rDNotIn : R2 := fun y x H Q => ∃ a o, x = .ref a ∧ DGet H a y o ∧ Q (.bl (!o.isSome)) H
section
variable {K : PySem.W.Frag} {Z : Zx}
theorem opd_dget : OpD K Z rDGet oDGet := by
  intro H0 H v1 w1 v2 w2 k Q e r1 r2 o f
  unfold oDGet at o
  cases hd : w1.dic with
  | none => rw [hd] at o; exact o.elim
  | some kvs =>
    cases hk : w2.key with
    | none => rw [hd, hk] at o; exact o.elim
    | some key =>
      rw [hd, hk] at o
      obtain ⟨w, h, kw⟩ := o
      obtain ⟨p, kv, rfl, rd, rk⟩ := r1.dic_of e hd
      obtain ⟨v, h1, h2⟩ := rk.some h
      exact ⟨p, v, rfl, .inl ⟨kv, key, rd, r2.key_of hk, h1.symm⟩, f.same e h2 kw⟩
theorem isSome_lk {H0 : Hp} {kv : List (Key × V)} {kvs : List (Key × W)} {key : Key} (rk : RepK K Z H0 kv kvs) : (valV kv key).isSome = (lk kvs key).isSome := by
  cases h : lk kvs key with
  | none => rw [rk.none h]; rfl
  | some w => obtain ⟨v, h1, _⟩ := rk.some h; rw [h1]; rfl
theorem opd_din : OpD K Z rDIn oDIn := by
  intro H0 H v1 w1 v2 w2 k Q e r1 r2 o f
  unfold oDIn at o
  cases hd : w2.dic with
  | none => rw [hd] at o; exact o.elim
  | some kvs =>
    cases hk : w1.key with
    | none => rw [hd, hk] at o; exact o.elim
    | some key =>
      rw [hd, hk] at o
      obtain ⟨p, kv, rfl, rd, rk⟩ := r2.dic_of e hd
      exact ⟨p, _, rfl, .inl ⟨kv, key, rd, r1.key_of hk, rfl⟩, f.same e (by rw [isSome_lk rk]; exact .bl) o⟩
theorem opd_dnotin : OpD K Z rDNotIn oDNotIn := by
  intro H0 H v1 w1 v2 w2 k Q e r1 r2 o f
  unfold oDNotIn at o
  cases hd : w2.dic with
  | none => rw [hd] at o; exact o.elim
  | some kvs =>
    cases hk : w1.key with
    | none => rw [hd, hk] at o; exact o.elim
    | some key =>
      rw [hd, hk] at o
      obtain ⟨p, kv, rfl, rd, rk⟩ := r2.dic_of e hd
      exact ⟨p, _, rfl, .inl ⟨kv, key, rd, r1.key_of hk, rfl⟩, f.same e (by rw [isSome_lk rk]; exact .bl) o⟩
end

/-! ### an owned thing in a slot, changed -/
def getT (st : S) (i : Nat) : Option T := match at' st i with
  | .un => none
  | .lo t => some t
  | .mp _ t => some t
  | .fr _ _ _ _ _ _ => none
def setH (s : Sl) (t : T) : Sl := match s with
  | .mp k _ => .mp k t
  | _ => .lo t
def setT : S → Nat → T → S
  | [], _, _ => []
  | s :: st, 0, t => setH s t :: st
  | s :: st, i + 1, t => s :: setT st i t
def setO (st : S) (i : Nat) (t : T) (s : Sl) : S := match s with
  | .mp k _ => put st i (.mp k t)
  | _ => put st i (.lo t)
theorem setT_eq : ∀ (st : S) (i : Nat) (t : T), setT st i t = setO st i t (at' st i)
  | [], i, t => by cases i <;> rfl
  | a :: st, 0, t => by cases a <;> rfl
  | a :: st, i + 1, t => by
    have ih := setT_eq st i t
    show a :: setT st i t = setO (a :: st) (i + 1) t (at' st i)
    rw [ih]
    cases at' st i <;> rfl
theorem set_self {α : Type} : ∀ {l : List α} {i : Nat} {x : α}, l[i]? = some x → l.set i x = l
  | [], i, x, h => by simp at h
  | a :: l, 0, x, h => by simp at h; subst h; rfl
  | a :: l, i + 1, x, h => by
    have := set_self (l := l) (i := i) (x := x) (by simpa using h)
    show a :: l.set i x = a :: l
    rw [this]
theorem Sts.own {K : PySem.W.Frag} {Z : Zx} {H0 : Hp} {pv : List V} {σ : L2.St} {st : S} {G : Fp} {i : Nat} {t : T} {v : V} (ss : Sts K Z H0 pv σ st G) (h : getT st i = some t) (hv : σ[i]? = some (some v)) :
    ∃ G1 Ga Gb, RepT K Z H0 v t G1 ∧ G = Ga ++ G1 ++ Gb ∧ ∀ H0' t' G1', Ex H0 H0' → RepT K Z H0' v t' G1' → Sts K Z H0' pv σ (setT st i t') (Ga ++ G1' ++ Gb) := by
  unfold getT at h
  cases q : at' st i with
  | un => rw [q] at h; cases h
  | lo t0 =>
    rw [q] at h; cases h
    obtain ⟨v', G1, Ga, Gb, h1, h2, h3, h4, _⟩ := ss.lo_at q
    rw [hv] at h1; cases h1
    refine ⟨G1, Ga, Gb, h2, h3, fun H0' t' G1' ex r => ?_⟩
    have := h4 H0' v t' G1' ex r
    rw [set_self hv] at this
    rw [setT_eq, q]
    exact this
  | fr _ _ _ _ _ _ => rw [q] at h; cases h
  | mp k t0 =>
    rw [q] at h; cases h
    obtain ⟨v', G1, Ga, Gb, h1, _, h2, h3, h4⟩ := ss.mp_at q
    rw [hv] at h1; cases h1
    refine ⟨G1, Ga, Gb, h2, h3, fun H0' t' G1' ex r => ?_⟩
    rw [setT_eq, q]
    exact h4 H0' t' G1' ex r
/-- one owned object changed in its place -/
theorem own_write {K : PySem.W.Frag} {Z : Zx} {H0 H F : Hp} {pv : List V} {σ : L2.St} {st : S} {G : Fp} {i : Nat} {t : T} {v : V} {p : Addr} {o : HO} (wd : Wd H0 F G H) (ss : Sts K Z H0 pv σ st G) (h : getT st i = some t) (hv : σ[i]? = some (some v))
    (sh : ∀ G1, RepT K Z H0 v t G1 → G1 = [(p, o)]) : ∀ o' t', RepT K Z H0 v t' [(p, o')] → ∃ G', Wd H0 F G' (upd H p o') ∧ Sts K Z H0 pv σ (setT st i t') G' := fun o' t' r => by
  obtain ⟨G1, Ga, Gb, h1, h2, h3⟩ := ss.own h hv
  have := sh G1 h1
  subst this
  subst h2
  exact ⟨_, wd.write (r.tn _ (List.mem_singleton.mpr rfl)), h3 H0 t' _ (Ex.refl _) r⟩

/-! ### stores into owned dicts -/
def dDPut (dd dk dv : DE) : DS := fun D st => dv st (fun rv st1 => dd st1 (fun rd st2 => dk st2 (fun rk st3 => match rd, rv with
  | .pk i, .w v => (match getT st3 i, (rk.val st3).bind W.key with
    | some (.dK kvs), some key => kvs.length < sizeLine ∧ D.nx (setT st3 i (.dK (pt kvs key v)))
    | _, _ => False)
  | _, _ => False) D.ex) D.ex) D.ex
section
variable {X : Cx} {Z : Zx} {E : XS} {e a b o i v : Expr} {es : List Expr} {da db dd dk dv : DE} {ds : DA} {dl : DL} {pos pos' : Pos}
theorem pd_dget (hu : X.A.units + 1 < cLine) (ha : PD X Z E a da) (hb : PD X Z E b db) (hs : NoSl b) : PD X Z E (.Subscript a b pos) (dOp oDGet da db) := pe_weak (pe_dget hu ha hb hs) fun _ _ _ => dop_ok opd_dget
theorem pd_din (hu : X.A.units + 1 < cLine) (ha : PD X Z E a da) (hb : PD X Z E b db) (hm : behindInMarks .In b = false := by rfl) : PD X Z E (.Compare a [.In] [b] pos) (dOp oDIn da db) := pe_weak (pe_cmp (pc_din hu ha hb) hm) fun _ _ _ => dop_ok (r := rDIn) opd_din
theorem pd_dnotin (hu : X.A.units + 1 < cLine) (ha : PD X Z E a da) (hb : PD X Z E b db) (hm : behindInMarks .NotIn b = false := by rfl) : PD X Z E (.Compare a [.NotIn] [b] pos) (dOp oDNotIn da db) := pe_weak (pe_cmp (pc_dnotin hu ha hb) hm) fun _ _ _ => dop_ok (r := rDNotIn) opd_dnotin
theorem ptd_din (hu : X.A.units + 1 < cLine) (ha : PD X Z E a da) (hb : PD X Z E b db) (hm : behindInMarks .In b = false := by rfl) : PTD X Z E (.Compare a [.In] [b] pos) (dTest (dOp oDIn da db)) := pt_weak (pt_cmp (pc_din hu ha hb) hm) fun _ _ _ q => dtest_ok (fun _ _ _ => dop_ok (r := rDIn) opd_din) q
theorem ptd_dnotin (hu : X.A.units + 1 < cLine) (ha : PD X Z E a da) (hb : PD X Z E b db) (hm : behindInMarks .NotIn b = false := by rfl) : PTD X Z E (.Compare a [.NotIn] [b] pos) (dTest (dOp oDNotIn da db)) := pt_weak (pt_cmp (pc_dnotin hu ha hb) hm) fun _ _ _ q => dtest_ok (fun _ _ _ => dop_ok (r := rDNotIn) opd_dnotin) q
theorem z_dput (hu : X.A.units + 1 < cLine) (ho : PD X Z E o dd) (hi : PD X Z E i dk) (hv : PD X Z E v dv) (hs : swapsWith v (some (.Subscript o i pos')) pos.line X.env = pure false := by rfl) :
    PZ X Z E (.Assign [.Subscript o i pos'] v pos) (dDPut dd dk dv) := by
  refine ps_weak (ps_dput hu ho hi hv hs) fun D σ H q => ?_
  obtain ⟨H0, F, G, pv, st, DD, wd, ss, hd, ha⟩ := q
  refine tE_seq wd ss ha.ex.at hd fun H1 G1 H1' st1 v1 r1 e1 wd1 ss1 rr1 k1 => ?_
  refine tE_seq wd1 ss1 (ha.ex.up e1).at k1 fun H2 G2 H2' st2 v2 r2 e2 wd2 ss2 rr2 k2 => ?_
  refine tE_seq wd2 ss2 (ha.ex.up (e1.trans e2)).at k2 fun H3 G3 H3' st3 v3 r3 e3 wd3 ss3 rr3 k3 => ?_
  cases rr2 with
  | w rv2 => exact k3.elim
  | pk hp =>
    cases rr1 with
    | pk _ => exact k3.elim
    | w rv1 =>
      rename_i i w
      replace k3 : (match getT st3 i, (r3.val st3).bind W.key with
        | some (.dK kvs), some key => kvs.length < sizeLine ∧ DD.nx (setT st3 i (.dK (pt kvs key w)))
        | _, _ => False) := k3
      split at k3
      · rename_i kvs key hg hk
        obtain ⟨kw, hk1, hk2⟩ := Option.bind_eq_some_iff.mp hk
        have rk := (rr3.peek ss3 wd3 hk1).key_of hk2
        obtain ⟨Gx, Ga, Gb, h1, h2, h3⟩ := ss3.own hg hp
        cases h1 with
        | dK rkv =>
          rename_i p kv
          subst h2
          have hpH : H3' p = some (.dK kv) := wd3.ow (p, _) (by simp)
          have rput := rkv.put (k := key) (rv1.mono (e2.trans e3))
          refine ⟨p, _, rfl, .inl ⟨kv, key, hpH, rk, by rw [rkv.length]; exact k3.1, rfl⟩, ?_⟩
          exact ha.nx _ _ _ _ _ (e1.trans (e2.trans e3)) wd3.write (h3 H3 _ _ (Ex.refl _) (.dK rput)) k3.2
      · exact k3.elim
end

/-! ### {k: v, ..} -/
abbrev DDc := S → (List (Key × W) → S → Prop) → KX → Prop
def dPairs : List (DE × DE) → S → (List (Key × W) → S → Prop) → KX → Prop
  | [], st, k, _ => k [] st
  | (a, b) :: r, st, k, x => a st (fun rk st1 => b st1 (fun rv st2 => dPairs r st2 (fun kws st3 => match rk, rv with
    | .w kw, .w v => (match kw.key with
      | some key => k ((key, v) :: kws) st3
      | none => False)
    | _, _ => False) x) x) x
def mergeW (kvs more : List (Key × W)) : List (Key × W) := more.foldl (fun acc kv => pt acc kv.1 kv.2) kvs
def dDisp (ds : List (DE × DE)) : DDc := fun st k x => dPairs ds st (fun kws st1 => kws.length ≤ 15 ∧ k (mergeW [] kws) st1) x
section
variable (K : PySem.W.Frag) (Z : Zx) (E : XS)
def AccDc (F : Hp) (pv : List V) (σ : L2.St) (H0 : Hp) (k : List (Key × W) → S → Prop) (Q : VK) : Prop :=
  ∀ H0' G' H' st' p xs ws, Ex H0 H0' → Wd H0' (upd F p (.dK xs)) G' H' → F p = none → Sts K Z H0' pv σ st' G' → RepK K Z H0' xs ws → k ws st' → Q (.ref p) H'
def tDc (d : DDc) : TE := fun σ H Q => ∃ H0 F G pv st k kx, Wd H0 F G H ∧ Sts K Z H0 pv σ st G ∧ d st k kx ∧ AccDc K Z F pv σ H0 k Q ∧ AccXe K Z E F pv σ H0 kx
def trsOf (ds : List (DE × DE)) : List (TE × TE) := ds.map fun p => (tE K Z E p.1, tE K Z E p.2)
end
def PDDc (X : Cx) (Z : Zx) (E : XS) (e : Expr) (d : DDc) : Prop := PE X e (tDc X.K Z E d)
def dFzD (d : DDc) : DE := fun st k x => d st (fun ws st1 => k (.w (.dK ws)) st1) x
def dAsgD (i : Nat) (d : DDc) : DS := fun D st => d st (fun ws st1 => stoT st1 i (.dK ws) D.nx) D.ex
def dRetD (d : DDc) : DS := fun D st => d st (fun ws st1 => D.rt (.dK ws) st1) D.ex
section
variable {X : Cx} {Z : Zx} {E : XS} {e a b o i v : Expr} {es : List Expr} {da db dd dk dv : DE} {ds : List (DE × DE)} {dl : DDc} {pos pos' : Pos}
theorem pairs_ok {K : PySem.W.Frag} {σ : L2.St} {F : Hp} {pv : List V} {kx : KX} : ∀ (ds : List (DE × DE)) {H0 H : Hp} {G : Fp} {st : S} {Q : List (V × V) → Hp → Prop} {k : List (Key × W) → S → Prop}, Wd H0 F G H → Sts K Z H0 pv σ st G → AccXe K Z E F pv σ H0 kx → dPairs ds st k kx →
    (∀ H0' G' H' st' (kvs : List (Key × V)) ws, Ex H0 H0' → Wd H0' F G' H' → Sts K Z H0' pv σ st' G' → RepK K Z H0' kvs ws → k ws st' → Q (kvs.map fun kv => (kV kv.1, kv.2)) H') → tPairs (trsOf K Z E ds) σ H Q
  | [], H0, H, G, st, Q, k, wd, ss, hx, hd, hk => hk _ _ _ _ [] [] (Ex.refl _) wd ss .nil hd
  | (a, b) :: r, H0, H, G, st, Q, k, wd, ss, hx, hd, hk => by
    refine tE_seq wd ss hx hd fun H1 G1 H1' st1 v1 r1 e1 wd1 ss1 rr1 k1 => ?_
    refine tE_seq wd1 ss1 (hx.up e1) k1 fun H2 G2 H2' st2 v2 r2 e2 wd2 ss2 rr2 k2 => ?_
    refine pairs_ok r wd2 ss2 (hx.up (e1.trans e2)) k2 fun H3 G3 H3' st3 kvs ws e3 wd3 ss3 rk k3 => ?_
    cases rr1 with
    | pk _ => exact k3.elim
    | w rv1 =>
      cases rr2 with
      | pk _ => exact k3.elim
      | w rv2 =>
        rename_i w1 w2
        replace k3 : (match w1.key with | some key => k ((key, w2) :: ws) st3 | none => False) := k3
        cases hk1 : w1.key with
        | none => rw [hk1] at k3; exact k3.elim
        | some key =>
          rw [hk1] at k3
          have := rep_key rv1 hk1
          subst this
          exact hk _ _ _ _ ((key, v2) :: kvs) _ (e1.trans (e2.trans e3)) wd3 ss3 (.cons (rv2.mono e3) rk) k3
theorem RepK.merge {K : PySem.W.Frag} {H : Hp} : ∀ {more ws kvs us}, RepK K Z H more ws → RepK K Z H kvs us → RepK K Z H (mergeK kvs more) (mergeW us ws)
  | _, _, _, _, .nil, h => h
  | _, _, _, _, .cons (k := k) r t, h => by
    have := RepK.merge t (RepK.put (k := k) h r)
    exact this
theorem pdc_disp {keys : List (Option Expr)} {values : List Expr} (h : PPs X pos keys values (trsOf X.K Z E ds)) (hall : keys.all (·.isSome) = true := by rfl) (hl : keys.length = values.length := by rfl) (h0 : keys ≠ [] := by exact List.cons_ne_nil _ _)
    (h15 : keys.length ≤ 15 := by decide) : PDDc X Z E (.Dict keys values pos) (dDisp ds) := by
  refine pe_weak (pe_disp h hall hl h0 h15) fun σ H Q q => ?_
  obtain ⟨H0, F, G, pv, st, k, kx, wd, ss, hd, hk, hx⟩ := q
  intro p hp
  have hF := (wd.free hp).2.1
  refine pairs_ok (F := upd F p (.dK [])) ds (wd.hand hp) ss ⟨hx.tabs.upd hF, fun H0' G' H' st' cls dx x e' wd' ss' rx kx' => ?_⟩ hd fun H1 G1 H1' st1 kvs ws e1 wd1 ss1 rk k1 => ?_
  · refine hx H0' G' H' st' cls dx x e' ?_ ss' rx kx'
    have := wd'.hand_own hF
    have w2 : Wd H0' F ([] ++ [(p, .dK [])] ++ G') H' := this
    exact w2.less
  · refine ⟨wd1.hand_at, kvs, rfl, by rw [rk.length]; exact k1.1, ?_⟩
    exact hk _ _ _ _ _ _ _ e1 (wd1.hand_write hF) hF ss1 (RepK.merge rk .nil) k1.2
theorem tDc_seq {K : PySem.W.Frag} {σ : L2.St} {H H0 F : Hp} {G : Fp} {pv : List V} {st : S} {kx : KX} {Q : VK} {k : List (Key × W) → S → Prop} (wd : Wd H0 F G H) (ss : Sts K Z H0 pv σ st G) (hx : AccXe K Z E F pv σ H0 kx) (hd : dl st k kx)
    (h : ∀ H0' G' H' st' p xs ws, Ex H0 H0' → Wd H0' (upd F p (.dK xs)) G' H' → F p = none → Sts K Z H0' pv σ st' G' → RepK K Z H0' xs ws → k ws st' → Q (.ref p) H') : tDc K Z E dl σ H Q := ⟨H0, F, G, pv, st, k, kx, wd, ss, hd, h, hx⟩
theorem z_setD {i : Nat} {x : Str} {pos' : Pos} (hN : X.N.Nodup) (hi : X.N[i]? = some x) (hx : Loc X.env.scope x) (he : PDDc X Z E e dl) (hs : swapsWith e (some (.Name x pos')) pos.line X.env = pure false := by rfl) (hf : X.fn x = true ∨ X.env.scope.names.lookup x = some .local := by first | exact .inl rfl | exact .inr rfl | assumption) :
    PZ X Z E (.Assign [.Name x pos'] e pos) (dAsgD i dl) := by
  refine ps_weak (ps_set hN hi hx he hs hf) fun D σ H q => ?_
  obtain ⟨H0, F, G, pv, st, DD, wd, ss, hd, ha⟩ := q
  refine tDc_seq wd ss ha.ex.at hd fun H1 G1 H1' st1 p xs ws e1 wd1 hF ss1 rs k1 => ?_
  obtain ⟨G', wd2, ss2, k2⟩ := stoT_ok (Gv := [(p, .dK xs)]) (wd1.hand_own hF) ss1 (.dK rs) k1
  exact ha.nx _ _ _ _ _ e1 wd2 ss2 k2
theorem z_retD (he : PDDc X Z E e dl) : PZ X Z E (.Return (some e) pos) (dRetD dl) := by
  refine ps_weak (ps_ret he) fun D σ H q => ?_
  obtain ⟨H0, F, G, pv, st, DD, wd, ss, hd, ha⟩ := q
  refine tDc_seq wd ss ha.ex.at hd fun H1 G1 H1' st1 p xs ws e1 wd1 hF ss1 rs k1 => ?_
  exact ha.rt _ [(p, .dK xs)] _ _ _ _ _ _ e1 (wd1.hand_own hF) (.dK rs) ss1 k1
theorem pd_fzD (h : PDDc X Z E e dl) : PD X Z E e (dFzD dl) := by
  refine pe_weak h fun σ H Q q => ?_
  obtain ⟨H0, F, G, pv, st, k, kx, wd, ss, hd, hk, hx⟩ := q
  refine ⟨H0, F, G, pv, st, _, kx, wd, ss, hd, fun H1 G1 H1' st1 p xs ws e1 wd1 hF ss1 rs k1 => ?_, hx⟩
  obtain ⟨wd2, e2⟩ := wd1.hand_fz hF
  exact hk _ _ _ _ _ _ (e1.trans e2) wd2 (ss1.mono e2) (.w (.dK (.of upd_same) (rs.mono e2))) k1
end
end Y
namespace Y
open PySem L2
open Evl (Ex)

/-! ### evaluators that may hand on an owned thing -/
abbrev DW := S → (T → S → Prop) → KX → Prop
section
variable (K : PySem.W.Frag) (Z : Zx) (E : XS)
def AccW (F : Hp) (pv : List V) (σ : L2.St) (H0 : Hp) (k : T → S → Prop) (Q : VK) : Prop :=
  ∀ H0' Gv G' H' st' v t, Ex H0 H0' → Wd H0' F (Gv ++ G') H' → RepT K Z H0' v t Gv → Sts K Z H0' pv σ st' G' → k t st' → Q v H'
def tW (d : DW) : TE := fun σ H Q => ∃ H0 F G pv st k kx, Wd H0 F G H ∧ Sts K Z H0 pv σ st G ∧ d st k kx ∧ AccW K Z F pv σ H0 k Q ∧ AccXe K Z E F pv σ H0 kx
end
def PVD (X : Cx) (Z : Zx) (E : XS) (e : Expr) (d : DW) : Prop := PE X e (tW X.K Z E d)
/-- it is frozen already -/
def dOf (d : DW) : DE := fun st k x => d st (fun t st1 => match t with
  | .fz w => k (.w w) st1
  | _ => False) x
def dAsgW (i : Nat) (d : DW) : DS := fun D st => d st (fun t st1 => stoT st1 i t D.nx) D.ex
def dRetW (d : DW) : DS := fun D st => d st (fun t st1 => D.rt t st1) D.ex
def dDropW (d : DW) : DS := fun D st => d st (fun _ st1 => D.nx st1) D.ex
def wL (d : DL) : DW := fun st k x => d st (fun ws st1 => k (.lst ws) st1) x
def wD (d : DDc) : DW := fun st k x => d st (fun ws st1 => k (.dK ws) st1) x
def wE (d : DE) : DW := fun st k x => d st (fun r st1 => match r with
  | .w w => k (.fz w) st1
  | .pk _ => False) x
/-- it is frozen now -/
def T.frz : T → Option W
  | .fz w => some w
  | .lst ws => some (.lst ws)
  | .dK ws => some (.dK ws)
  | .dT ws => some (.dT ws)
  | .ins c ts => if ts.length = (fldN c).length then (T.fzs ts).map (.ins c) else none
  | .wo _ _ => none
def dFrz (d : DW) : DE := fun st k x => d st (fun t st1 => match t.frz with
  | some w => k (.w w) st1
  | none => False) x
section
variable {K : PySem.W.Frag} {Z : Zx} {H0 H F : Hp}
theorem RepTs.fz_of : ∀ {vs ts G ws}, RepTs K Z H0 vs ts G → T.fzs ts = some ws → G = [] ∧ Reps K Z H0 vs ws
  | _, _, _, _, .nil, e => by cases e; exact ⟨rfl, .nil⟩
  | _, .fz w :: ts, _, ws, .cons (.fz h) r, e => by
    unfold T.fzs at e
    obtain ⟨us, h1, rfl⟩ := Option.map_eq_some_iff.mp e
    obtain ⟨h2, h3⟩ := RepTs.fz_of r h1
    exact ⟨by rw [h2]; rfl, .cons h h3⟩
  | _, .lst _ :: _, _, _, .cons _ r, e => by cases e
  | _, .dK _ :: _, _, _, .cons _ r, e => by cases e
  | _, .dT _ :: _, _, _, .cons _ r, e => by cases e
  | _, .ins _ _ :: _, _, _, .cons _ r, e => by cases e
  | _, .wo _ _ :: _, _, _, .cons _ r, e => by cases e
theorem freeze {Gv G : Fp} {v : V} {t : T} {w : W} (wd : Wd H0 F (Gv ++ G) H) (r : RepT K Z H0 v t Gv) (e : t.frz = some w) : ∃ H0', Ex H0 H0' ∧ Wd H0' F G H ∧ Rep K Z H0' v w := by
  cases r with
  | fz r => cases e; exact ⟨H0, Ex.refl _, wd, r⟩
  | lst r =>
    cases e
    obtain ⟨w2, e2⟩ := Wd.own_fz (Ga := []) (Gb := G) wd
    exact ⟨_, e2, w2, .lst upd_same (r.mono e2)⟩
  | dK r =>
    cases e
    obtain ⟨w2, e2⟩ := Wd.own_fz (Ga := []) (Gb := G) wd
    exact ⟨_, e2, w2, .dK (.of upd_same) (r.mono e2)⟩
  | dT r =>
    cases e
    obtain ⟨w2, e2⟩ := Wd.own_fz (Ga := []) (Gb := G) wd
    exact ⟨_, e2, w2, .dT (.of upd_same) (r.mono e2)⟩
  | @ins p c dx fs ts G1 z n r =>
    replace e : (if ts.length = (fldN c).length then (T.fzs ts).map (W.ins c) else none) = some w := e
    by_cases hl : ts.length = (fldN c).length
    · rw [if_pos hl] at e
      obtain ⟨ws, h1, rfl⟩ := Option.map_eq_some_iff.mp e
      obtain ⟨h2, h3⟩ := r.fz_of h1
      subst h2
      obtain ⟨w2, e2⟩ := Wd.own_fz (Ga := []) (Gb := G) wd
      refine ⟨_, e2, w2, .ins z upd_same ?_ (h3.mono e2)⟩
      rw [n, hl, List.take_length]
    · rw [if_neg hl] at e; cases e
  | wo _ _ => cases e
end
section
variable {X : Cx} {Z : Zx} {E : XS} {e a b o i v : Expr} {es : List Expr} {da db dd dk dv : DE} {dl : DL} {dc : DDc} {dw : DW} {pos pos' : Pos}
theorem tW_seq {K : PySem.W.Frag} {σ : L2.St} {H H0 F : Hp} {G : Fp} {pv : List V} {st : S} {kx : KX} {Q : VK} {k : T → S → Prop} (wd : Wd H0 F G H) (ss : Sts K Z H0 pv σ st G) (hx : AccXe K Z E F pv σ H0 kx) (hd : dw st k kx)
    (h : ∀ H0' Gv G' H' st' v t, Ex H0 H0' → Wd H0' F (Gv ++ G') H' → RepT K Z H0' v t Gv → Sts K Z H0' pv σ st' G' → k t st' → Q v H') : tW K Z E dw σ H Q := ⟨H0, F, G, pv, st, k, kx, wd, ss, hd, h, hx⟩
theorem pv_L (h : PLD X Z E e dl) : PVD X Z E e (wL dl) := by
  refine pe_weak h fun σ H Q q => ?_
  obtain ⟨H0, F, G, pv, st, k, kx, wd, ss, hd, hk, hx⟩ := q
  exact tL_seq wd ss hx hd fun H1 G1 H1' st1 p xs ws e1 wd1 hF ss1 rs k1 => hk _ [(p, .lst xs)] _ _ _ _ _ e1 (wd1.hand_own hF) (.lst rs) ss1 k1
theorem pv_D (h : PDDc X Z E e dc) : PVD X Z E e (wD dc) := by
  refine pe_weak h fun σ H Q q => ?_
  obtain ⟨H0, F, G, pv, st, k, kx, wd, ss, hd, hk, hx⟩ := q
  exact tDc_seq wd ss hx hd fun H1 G1 H1' st1 p xs ws e1 wd1 hF ss1 rs k1 => hk _ [(p, .dK xs)] _ _ _ _ _ e1 (wd1.hand_own hF) (.dK rs) ss1 k1
theorem pv_E (h : PD X Z E e da) : PVD X Z E e (wE da) := by
  refine pe_weak h fun σ H Q q => ?_
  obtain ⟨H0, F, G, pv, st, k, kx, wd, ss, hd, hk, hx⟩ := q
  refine tE_seq wd ss hx hd fun H1 G1 H1' st1 v r e1 wd1 ss1 rr k1 => ?_
  cases rr with
  | pk _ => exact k1.elim
  | w rv => exact hk _ [] _ _ _ _ _ e1 wd1 (.fz rv) ss1 k1
theorem pd_of (h : PVD X Z E e dw) : PD X Z E e (dOf dw) := by
  refine pe_weak h fun σ H Q q => ?_
  obtain ⟨H0, F, G, pv, st, k, kx, wd, ss, hd, hk, hx⟩ := q
  refine tW_seq wd ss hx hd fun H1 Gv G1 H1' st1 v t e1 wd1 rt ss1 k1 => ?_
  cases rt with
  | fz r => exact hk _ _ _ _ _ _ e1 wd1 ss1 (.w r) k1
  | _ => exact k1.elim
theorem pd_frz (h : PVD X Z E e dw) : PD X Z E e (dFrz dw) := by
  refine pe_weak h fun σ H Q q => ?_
  obtain ⟨H0, F, G, pv, st, k, kx, wd, ss, hd, hk, hx⟩ := q
  refine tW_seq wd ss hx hd fun H1 Gv G1 H1' st1 v t e1 wd1 rt ss1 k1 => ?_
  cases q1 : t.frz with
  | none => rw [q1] at k1; exact k1.elim
  | some w =>
    rw [q1] at k1
    obtain ⟨H2, e2, wd2, r2⟩ := freeze wd1 rt q1
    exact hk _ _ _ _ _ _ (e1.trans e2) wd2 (ss1.mono e2) (.w r2) k1
theorem z_setW {i : Nat} {x : Str} (hN : X.N.Nodup) (hi : X.N[i]? = some x) (hx : Loc X.env.scope x) (he : PVD X Z E e dw) (hs : swapsWith e (some (.Name x pos')) pos.line X.env = pure false := by rfl) (hf : X.fn x = true ∨ X.env.scope.names.lookup x = some .local := by first | exact .inl rfl | exact .inr rfl | assumption) :
    PZ X Z E (.Assign [.Name x pos'] e pos) (dAsgW i dw) := by
  refine ps_weak (ps_set hN hi hx he hs hf) fun D σ H q => ?_
  obtain ⟨H0, F, G, pv, st, DD, wd, ss, hd, ha⟩ := q
  refine tW_seq wd ss ha.ex.at hd fun H1 Gv G1 H1' st1 v t e1 wd1 rt ss1 k1 => ?_
  obtain ⟨G', wd2, ss2, k2⟩ := stoT_ok wd1 ss1 rt k1
  exact ha.nx _ _ _ _ _ e1 wd2 ss2 k2
theorem z_retW (he : PVD X Z E e dw) : PZ X Z E (.Return (some e) pos) (dRetW dw) := by
  refine ps_weak (ps_ret he) fun D σ H q => ?_
  obtain ⟨H0, F, G, pv, st, DD, wd, ss, hd, ha⟩ := q
  exact tW_seq wd ss ha.ex.at hd fun H1 Gv G1 H1' st1 v t e1 wd1 rt ss1 k1 => ha.rt _ _ _ _ _ _ _ _ e1 wd1 rt ss1 k1
theorem z_exprW (he : PVD X Z E e dw) (hs : swapsWith e none pos.line X.env = pure false := by rfl) : PZ X Z E (.Expr e pos) (dDropW dw) := by
  refine ps_weak (ps_expr he hs) fun D σ H q => ?_
  obtain ⟨H0, F, G, pv, st, DD, wd, ss, hd, ha⟩ := q
  refine tW_seq wd ss ha.ex.at hd fun H1 Gv G1 H1' st1 v t e1 wd1 rt ss1 k1 => ha.nx _ _ _ _ _ e1 ?_ ss1 k1
  have w2 : Wd H1 F ([] ++ Gv ++ G1) H1' := wd1
  exact w2.less
/-- return of a name's own thing, frozen -/
def dRetF (d : DE) : DS := fun D st => d st (fun r st1 => match r with
  | .w w => D.rt (.fz w) st1
  | .pk i => match at' st1 i with
    | .lo t => (match t.frz with
      | some w => D.rt (.fz w) (put st1 i .un)
      | none => False)
    | _ => False) D.ex
theorem z_retF (he : PD X Z E e da) : PZ X Z E (.Return (some e) pos) (dRetF da) := by
  refine ps_weak (ps_ret he) fun D σ H q => ?_
  obtain ⟨H0, F, G, pv, st, DD, wd, ss, hd, ha⟩ := q
  refine tE_seq wd ss ha.ex.at hd fun H1 G1 H1' st1 v r e1 wd1 ss1 rr k1 => ?_
  cases rr with
  | w rv => exact ha.rt _ [] _ _ _ _ _ _ e1 wd1 (.fz rv) ss1 k1
  | pk h =>
    rename_i i
    replace k1 : (match at' st1 i with | .lo t => (match t.frz with | some w => DD.rt (.fz w) (put st1 i .un) | none => False) | _ => False) := k1
    cases q : at' st1 i with
    | un => rw [q] at k1; exact k1.elim
    | mp k t => rw [q] at k1; exact k1.elim
    | fr _ _ _ _ _ _ => rw [q] at k1; exact k1.elim
    | lo t =>
      rw [q] at k1
      cases q1 : t.frz with
      | none => simp only [q1] at k1
      | some w =>
        simp only [q1] at k1
        obtain ⟨v', Gx, Ga, Gb, h1, h2, h3, _, h5⟩ := ss1.lo_at q
        rw [h] at h1; cases h1
        subst h3
        have wd2 : Wd H1 F (Gx ++ (Ga ++ Gb)) H1' := wd1.perm (by rw [← List.append_assoc]; exact List.Perm.append_right _ List.perm_append_comm)
        obtain ⟨H2, e2, wd3, r3⟩ := freeze wd2 h2 q1
        exact ha.rt _ [] _ _ _ _ _ _ (e1.trans e2) wd3 (.fz r3) (h5.mono e2) k1
end

/-! ### contracts -/
abbrev Ct := List T → (T → List T → Prop) → (XW → List T → Prop) → Prop
/-- the callers' own things stand in the frame -/
def lkF : Fp → Addr → Option HO
  | [], _ => none
  | q :: G, a => if q.1 = a then some q.2 else lkF G a
def addF (F : Hp) (G : Fp) : Hp := fun a => match lkF G a with
  | some o => some o
  | none => F a
theorem lkF_mem : ∀ {G : Fp} {a : Addr} {o : HO}, lkF G a = some o → (a, o) ∈ G
  | q :: G, a, o, h => by
    unfold lkF at h
    by_cases e : q.1 = a
    · rw [if_pos e] at h; cases h; subst e; exact List.mem_cons_self
    · rw [if_neg e] at h; exact List.mem_cons_of_mem _ (lkF_mem h)
theorem lkF_none : ∀ {G : Fp} {a : Addr}, (∀ q ∈ G, q.1 ≠ a) → lkF G a = none
  | [], _, _ => rfl
  | q :: G, a, h => by
    unfold lkF
    rw [if_neg (h q List.mem_cons_self)]
    exact lkF_none fun p hp => h p (List.mem_cons_of_mem _ hp)
theorem lkF_at : ∀ {G : Fp} {q : Addr × HO}, (G.map (·.1)).Nodup → q ∈ G → lkF G q.1 = some q.2
  | p :: G, q, nd, h => by
    rw [List.map_cons] at nd
    obtain ⟨n1, n2⟩ := List.nodup_cons.mp nd
    unfold lkF
    rcases List.mem_cons.mp h with e | h
    · subst e; rw [if_pos rfl]
    · rw [if_neg (fun e => n1 (List.mem_map.mpr ⟨q, h, e.symm⟩))]
      exact lkF_at n2 h
section
variable {H0 F H : Hp} {Ga Gr : Fp}
theorem nodup_split (nd : ((Ga ++ Gr).map (·.1)).Nodup) : (Ga.map (·.1)).Nodup ∧ (Gr.map (·.1)).Nodup ∧ ∀ p ∈ Ga, ∀ q ∈ Gr, p.1 ≠ q.1 := by
  rw [List.map_append] at nd
  obtain ⟨h1, h2, h3⟩ := List.nodup_append.mp nd
  exact ⟨h1, h2, fun p hp q hq => h3 p.1 (List.mem_map.mpr ⟨p, hp, rfl⟩) q.1 (List.mem_map.mpr ⟨q, hq, rfl⟩)⟩
theorem Wd.toCall (wd : Wd H0 F (Ga ++ Gr) H) : Wd H0 (addF F Gr) Ga H := by
  obtain ⟨n1, n2, n3⟩ := nodup_split wd.nd
  refine ⟨wd.ex, fun a o h n => ?_, fun q hq => wd.ow q (List.mem_append_left _ hq), n1, fun q hq => wd.d0 q (List.mem_append_left _ hq), fun q hq => ?_, fun a o h => ?_, fun a o t h n => ?_, fun q hq => wd.tn q (List.mem_append_left _ hq)⟩
  · unfold addF at h
    cases q : lkF Gr a with
    | some u => rw [q] at h; cases h; exact wd.ow _ (List.mem_append_right _ (lkF_mem q))
    | none => rw [q] at h; exact wd.fr a o h n
  · unfold addF
    rw [lkF_none fun p hp e => n3 q hq p hp e.symm]
    exact wd.dF q (List.mem_append_left _ hq)
  · unfold addF
    rw [lkF_none fun p hp e => by have := wd.d0 p (List.mem_append_right _ hp); rw [e, h] at this; cases this]
    exact wd.d0F a o h
  · unfold addF at h
    cases q : lkF Gr a with
    | some u =>
      rw [q] at h; cases h
      have := wd.tn _ (List.mem_append_right _ (lkF_mem q))
      rw [n] at this; cases this
    | none => rw [q] at h; exact wd.tb a o t h n
theorem Wd.ofCall {H0' H' : Hp} {Ga' : Fp} (wd : Wd H0 F (Ga ++ Gr) H) (wd' : Wd H0' (addF F Gr) Ga' H') : Wd H0' F (Ga' ++ Gr) H' := by
  obtain ⟨n1, n2, n3⟩ := nodup_split wd.nd
  have at_ : ∀ q ∈ Gr, addF F Gr q.1 = some q.2 := fun q hq => by unfold addF; rw [lkF_at n2 hq]
  have ofF : ∀ a o, F a = some o → addF F Gr a = some o := fun a o h => by
    unfold addF
    rw [lkF_none fun p hp e => by have := wd.dF p (List.mem_append_right _ hp); rw [e, h] at this; cases this]
    exact h
  have ofN : ∀ a, addF F Gr a = none → F a = none := fun a h => by
    cases q : F a with
    | none => rfl
    | some o => rw [ofF a o q] at h; cases h
  have tnr : ∀ q ∈ Gr, tabQ q.2 = none := fun q hq => wd.tn q (List.mem_append_right _ hq)
  refine ⟨wd'.ex, fun a o h n => wd'.fr a o (ofF a o h) n, fun q hq => ?_, ?_, fun q hq => ?_, fun q hq => ?_, fun a o h => ofN a (wd'.d0F a o h), fun a o t h n => wd'.tb a o t (ofF a o h) n, fun q hq => (List.mem_append.mp hq).elim (wd'.tn q) (tnr q)⟩
  · rcases List.mem_append.mp hq with h | h
    · exact wd'.ow q h
    · exact wd'.fr _ _ (at_ q h) (tnr q h)
  · rw [List.map_append]
    refine List.nodup_append.mpr ⟨wd'.nd, n2, fun a ha b hb e => ?_⟩
    obtain ⟨p, hp, rfl⟩ := List.mem_map.mp ha
    obtain ⟨q, hq, rfl⟩ := List.mem_map.mp hb
    have := wd'.dF p hp
    rw [e, at_ q hq] at this; cases this
  · rcases List.mem_append.mp hq with h | h
    · exact wd'.d0 q h
    · cases z : H0' q.1 with
      | none => rfl
      | some u => have := wd'.d0F _ _ z; rw [at_ q h] at this; cases this
  · rcases List.mem_append.mp hq with h | h
    · exact ofN _ (wd'.dF q h)
    · exact wd.dF q (List.mem_append_right _ h)
theorem Wd.sub {G Gd G' : Fp} (wd : Wd H0 F G H) (p : G.Perm (G' ++ Gd)) : Wd H0 F G' H := by
  have w2 : Wd H0 F (G' ++ Gd ++ []) H := by rw [List.append_nil]; exact wd.perm p.symm
  have := w2.less
  rwa [List.append_nil] at this
theorem Wd.junk {p : Addr} {o : HO} {G : Fp} (wd : Wd H0 F G H) (hp : H p = none) : Wd H0 F G (upd H p o) := by
  obtain ⟨_, _, hG⟩ := wd.free hp
  have nw : Ex H (upd H p o) := .new hp
  exact ⟨wd.ex.trans nw, fun a u h n => nw a u (wd.fr a u h n), fun q hq => by rw [upd_ne (hG q hq)]; exact wd.ow q hq, wd.nd, wd.d0, wd.dF, wd.d0F, fun a u t h n => (wd.tb a u t h n).up (Ex.refl _) (nw a), wd.tn⟩
end
theorem TabF.add {Z : Zx} {F H0 H : Hp} {Ga Gr : Fp} (t : TabF Z F) (wd : Wd H0 F (Ga ++ Gr) H) : TabF Z (addF F Gr) := fun p hp => by
  unfold addF
  rw [lkF_none fun q hq e => by have := wd.dF q (List.mem_append_right _ hq); rw [e, t p hp] at this; cases this]
  exact t p hp
def spOf (K : PySem.W.Frag) (Z : Zx) (c : Ct) : Sp := fun vs H Q E => ∃ H0 F Ga ts k kx, Wd H0 F Ga H ∧ RepTs K Z H0 vs ts Ga ∧ c ts k kx ∧
  (∀ H0' Gv Ga' H' v t ts', Ex H0 H0' → Wd H0' F (Gv ++ Ga') H' → RepT K Z H0' v t Gv → RepTs K Z H0' vs ts' Ga' → k t ts' → Q v H') ∧
  (∀ H0' Ga' H' ts' cls dx x, Ex H0 H0' → Wd H0' F Ga' H' → RepTs K Z H0' vs ts' Ga' → RepX K Z H0' H' cls dx x → kx x ts' → E cls dx H') ∧ TabF Z F

/-! ### a call's arguments -/
def argT (st : S) : List R → Option (List T)
  | [] => some []
  | .w w :: rs => (argT st rs).map (.fz w :: ·)
  | .pk i :: rs => match getT st i, argT st rs with
    | some t, some ts => some (t :: ts)
    | _, _ => none
def setA (st : S) : List R → List T → S
  | .pk i :: rs, t :: ts => setA (setT st i t) rs ts
  | .w _ :: rs, _ :: ts => setA st rs ts
  | _, _ => st
def noPk : List R → Bool
  | [] => true
  | .w _ :: rs => noPk rs
  | .pk _ :: _ => false
def onePk : List R → Bool
  | [] => true
  | .w _ :: rs => onePk rs
  | .pk _ :: rs => noPk rs
section
variable {K : PySem.W.Frag} {Z : Zx} {H0 H F : Hp} {pv : List V} {σ : L2.St}
theorem setA_no {st : S} : ∀ {rs ts}, noPk rs = true → setA st rs ts = st
  | [], [], _ => rfl
  | [], _ :: _, _ => rfl
  | .w _ :: rs, [], _ => rfl
  | .w _ :: rs, _ :: ts, h => setA_no (rs := rs) (ts := ts) h
  | .pk _ :: rs, _, h => by cases h
theorem args_no {st : S} : ∀ {vs rs ts}, RepRs K Z H0 σ vs rs → noPk rs = true → argT st rs = some ts → RepTs K Z H0 vs ts []
  | _, _, _, .nil, _, e => by cases e; exact .nil
  | _, _, _, .cons (r := .pk _) _ _, h, _ => by cases h
  | _, _, ts, .cons (r := .w w) h t, hn, e => by
    unfold argT at e
    obtain ⟨us, h1, rfl⟩ := Option.map_eq_some_iff.mp e
    cases h with | w h => exact .cons (G1 := []) (.fz h) (args_no t hn h1)
theorem args_split {st : S} {G : Fp} (ss : Sts K Z H0 pv σ st G) : ∀ {vs rs ts}, RepRs K Z H0 σ vs rs → onePk rs = true → argT st rs = some ts →
    ∃ Ga Gr, G.Perm (Ga ++ Gr) ∧ RepTs K Z H0 vs ts Ga ∧ ∀ H0' us ts' Ga', Ex H0 H0' → RepTs K Z H0' (vs ++ us) ts' Ga' → ∃ G' Gd, (Ga' ++ Gr).Perm (G' ++ Gd) ∧ Sts K Z H0' pv σ (setA st rs ts') G'
  | _, _, _, .nil, _, e => by
    cases e
    refine ⟨[], G, .refl _, .nil, fun H0' us ts' Ga' ex r => ⟨G, Ga', List.perm_append_comm, ?_⟩⟩
    cases ts' <;> exact ss.mono ex
  | _, _, ts, .cons (r := .w w) h t, hn, e => by
    unfold argT at e
    obtain ⟨us, h1, rfl⟩ := Option.map_eq_some_iff.mp e
    obtain ⟨Ga, Gr, h2, h3, h4⟩ := args_split ss t hn h1
    cases h with
    | w h =>
      refine ⟨Ga, Gr, h2, .cons (G1 := []) (.fz h) h3, fun H0' us' ts' Ga' ex r => ?_⟩
      cases r with
      | cons r1 r2 =>
        rename_i t' ts' G1 G2
        obtain ⟨G', Gd, h5, h6⟩ := h4 H0' us' _ _ ex r2
        refine ⟨G', Gd ++ G1, ?_, h6⟩
        rw [← List.append_assoc]
        refine List.Perm.trans ?_ (List.Perm.append_right G1 h5)
        rw [List.append_assoc]
        exact List.perm_append_comm
  | _, _, ts, .cons (r := .pk i) (rs := rs) h t, hn, e => by
    unfold argT at e
    cases q1 : getT st i with
    | none => rw [q1] at e; cases e
    | some t1 =>
      cases q2 : argT st rs with
      | none => rw [q1, q2] at e; cases e
      | some us =>
        rw [q1, q2] at e; cases e
        cases h with
        | pk hv =>
          obtain ⟨G1, A, B, h1, h2, h3⟩ := ss.own q1 hv
          subst h2
          refine ⟨G1 ++ [], A ++ B, ?_, .cons h1 (args_no t hn q2), fun H0' us' ts' Ga' ex r => ?_⟩
          · rw [List.append_nil, ← List.append_assoc]
            exact List.Perm.append_right _ List.perm_append_comm
          · cases r with
            | cons r1 r2 =>
              rename_i t' ts' G1' G2'
              refine ⟨A ++ G1' ++ B, G2', ?_, ?_⟩
              · have p1 : (G1' ++ G2' ++ (A ++ B)).Perm (A ++ B ++ (G1' ++ G2')) := List.perm_append_comm
                refine p1.trans ?_
                have p2 : (A ++ B ++ (G1' ++ G2')).Perm (A ++ (G1' ++ B) ++ G2') := by
                  rw [List.append_assoc, List.append_assoc, List.append_assoc]
                  refine List.Perm.append_left A ?_
                  rw [← List.append_assoc, ← List.append_assoc]
                  exact List.Perm.append_right G2' List.perm_append_comm
                rw [List.append_assoc A G1' B]
                exact p2
              · show Sts K Z H0' pv σ (setA (setT st i t') rs ts') _
                rw [setA_no hn]
                exact h3 H0' t' G1' ex r1
theorem RepTs.app : ∀ {vs ts G us ts2}, RepTs K Z H0 vs ts G → RepTs K Z H0 us ts2 [] → RepTs K Z H0 (vs ++ us) (ts ++ ts2) G
  | _, _, _, _, _, .nil, h => h
  | _, _, _, _, _, .cons r t, h => .cons r (RepTs.app t h)
theorem RepTs.ofFz : ∀ {vs ws}, Reps K Z H0 vs ws → RepTs K Z H0 vs (ws.map .fz) []
  | _, _, .nil => .nil
  | _, _, .cons r t => .cons (G1 := []) (.fz r) (RepTs.ofFz t)
/-- what a call comes to: from the contract at the evaluated arguments to the promise -/
theorem call_ok {E : XS} {st : S} {G : Fp} {kx : KX} {Q : VK} {c : Ct} {vs : List V} {rs : List R} {ts : List T} {dvs : List V} {dws : List W} {k : T → S → Prop} (wd : Wd H0 F G H) (ss : Sts K Z H0 pv σ st G) (rr : RepRs K Z H0 σ vs rs) (hdv : ∀ H0, Reps K Z H0 dvs dws)
    (h1 : onePk rs = true) (h2 : argT st rs = some ts) (h3 : c (ts ++ dws.map .fz) (fun t ts' => k t (setA st rs ts')) (fun x ts' => kx x (setA st rs ts')))
    (hk : AccW K Z F pv σ H0 k Q) (hx : AccXe K Z E F pv σ H0 kx) : spOf K Z c (vs ++ dvs) H Q (fun cls dx H => E cls dx σ H) := by
  obtain ⟨Ga, Gr, p, ra, back⟩ := args_split ss rr h1 h2
  have wd' : Wd H0 F (Ga ++ Gr) H := wd.perm p.symm
  refine ⟨H0, addF F Gr, Ga, _, _, _, wd'.toCall, ra.app (.ofFz (hdv H0)), h3, fun H0' Gv Ga' H' v t ts' ex wd1 rt rts kt => ?_, fun H0' Ga' H' ts' cls dx x ex wd1 rts rx kt => ?_, hx.tabs.add wd'⟩
  · have w2 := wd'.ofCall wd1
    obtain ⟨G', Gd, p2, s2⟩ := back H0' dvs ts' Ga' ex rts
    refine hk H0' Gv G' H' _ v t ex (w2.sub (Gd := Gd) ?_) rt s2 kt
    rw [List.append_assoc, List.append_assoc]
    exact List.Perm.append_left Gv p2
  · have w2 := wd'.ofCall wd1
    obtain ⟨G', Gd, p2, s2⟩ := back H0' dvs ts' Ga' ex rts
    exact hx H0' G' H' _ cls dx x ex (w2.sub p2) s2 rx kt
end
end Y
namespace Y
open PySem L2
open PySem.Spec PyProof.Rows
open Evl (Ex)

/-! ### a def keeps its contract -/
def entryS : List T → Nat → S
  | [], _ => []
  | .fz w :: ts, k => .lo (.fz w) :: entryS ts (k + 1)
  | t :: ts, k => .mp k t :: entryS ts (k + 1)
def uns : Nat → S
  | 0 => []
  | n + 1 => .un :: uns n
def outT : List T → S → Nat → Option (List T)
  | [], _, _ => some []
  | .fz w :: ts, _ :: st, j => (outT ts st (j + 1)).map (.fz w :: ·)
  | _ :: ts, .mp k t :: st, j => if k = j then (outT ts st (j + 1)).map (t :: ·) else none
  | _, _, _ => none
def endsOf (ts : List T) (k : T → List T → Prop) (kx : XW → List T → Prop) : DEnds where
  nx := fun st => match outT ts st 0 with
    | some ts' => k (.fz .non) ts'
    | none => False
  rt := fun t st => match outT ts st 0 with
    | some ts' => k t ts'
    | none => False
  ex := fun x st => match outT ts st 0 with
    | some ts' => kx x ts'
    | none => False
/-- the body d keeps the contract c: np parameters, m other names -/
def Meets (c : Ct) (np m : Nat) (d : DS) : Prop := ∀ ts k kx, c ts k kx → ts.length = np ∧ d (endsOf ts k kx) (entryS ts 0 ++ uns m)
section
variable {K : PySem.W.Frag} {Z : Zx} {H0 H0' : Hp} {pv : List V}
theorem sts_uns (n : Nat) : ∀ m, Sts K Z H0 pv (List.replicate m none) (uns m) []
  | 0 => .nil
  | m + 1 => .un (sts_uns n m)
theorem sts_entry {m : Nat} : ∀ {us : List V} {ts : List T} {G : Fp} (k : Nat), RepTs K Z H0 us ts G → (∀ j v, us[j]? = some v → pv[k + j]? = some v) → Sts K Z H0 pv (us.map some ++ List.replicate m none) (entryS ts k ++ uns m) G
  | _, _, _, k, .nil, _ => sts_uns 0 m
  | _, _, _, k, .cons (v := v) (t := t) (G1 := G1) r rs, hp => by
    have ih := sts_entry (m := m) (k + 1) rs fun j u h => by
      have := hp (j + 1) u (by simpa using h)
      rw [show k + 1 + j = k + (j + 1) by omega]; exact this
    have h0 : pv[k]? = some v := by have := hp 0 v rfl; simpa using this
    cases t with
    | fz w => exact .lo r ih
    | lst w => exact .mp h0 r ih
    | dK w => exact .mp h0 r ih
    | dT w => exact .mp h0 r ih
    | ins c w => exact .mp h0 r ih
    | wo w _ => exact .mp h0 r ih
theorem out_ok (ex : Ex H0 H0') : ∀ {us : List V} {ts : List T} {Ga : Fp} {σ : L2.St} {st : S} {G : Fp} {ts' : List T} (j : Nat), RepTs K Z H0 us ts Ga → Sts K Z H0' pv σ st G → outT ts st j = some ts' → (∀ i v, us[i]? = some v → pv[j + i]? = some v) →
    ∃ Ga' Gd, G.Perm (Ga' ++ Gd) ∧ RepTs K Z H0' us ts' Ga'
  | _, _, _, _, _, G, ts', j, .nil, _, e, _ => by cases e; exact ⟨[], G, .refl _, .nil⟩
  | _, t :: ts, _, _, st, _, ts', j, .cons (v := v) (vs := us) r rs, ss, e, hp => by
    have hp' : ∀ (i : Nat) (u : V), us[i]? = some u → pv[j + 1 + i]? = some u := fun i u h => by
      have := hp (i + 1) u (by simpa using h)
      rw [show j + 1 + i = j + (i + 1) by omega]; exact this
    have key : ∀ (s : Sl) (st2 : S) (G : Fp) (σ : L2.St), Sts K Z H0' pv σ (s :: st2) G → (match s with | .mp k t' => if k = j then (outT ts st2 (j + 1)).map (t' :: ·) else none | _ => none) = some ts' → ∃ Ga' Gd, G.Perm (Ga' ++ Gd) ∧ RepTs K Z H0' (v :: _) ts' Ga' := fun s st2 G σ ss e => by
      cases ss with
      | un _ => cases e
      | lo _ _ => cases e
      | fr _ _ _ => cases e
      | mp z q ss =>
        rename_i v' k t' σ' Gx Gy
        replace e : (if k = j then (outT ts st2 (j + 1)).map (t' :: ·) else none) = some ts' := e
        by_cases hk : k = j
        · rw [if_pos hk] at e
          obtain ⟨ts2, h1, rfl⟩ := Option.map_eq_some_iff.mp e
          subst hk
          have h0 : pv[k]? = some v := by have := hp 0 v rfl; simpa using this
          rw [h0] at z; cases z
          obtain ⟨Ga', Gd, p, r2⟩ := out_ok ex (k + 1) rs ss h1 hp'
          refine ⟨Gx ++ Ga', Gd, ?_, .cons q r2⟩
          rw [List.append_assoc]
          exact List.Perm.append_left Gx p
        · rw [if_neg hk] at e; cases e
    cases st with
    | nil => cases t <;> cases e
    | cons s st2 =>
      cases t with
      | fz w =>
        have e' : (outT ts st2 (j + 1)).map (.fz w :: ·) = some ts' := e
        obtain ⟨ts2, h1, rfl⟩ := Option.map_eq_some_iff.mp e'
        cases r with
        | fz r =>
        cases ss with
        | un ss =>
          obtain ⟨Ga', Gd, p, r2⟩ := out_ok ex (j + 1) rs ss h1 hp'
          exact ⟨Ga', Gd, p, .cons (G1 := []) (.fz (r.mono ex)) r2⟩
        | lo q ss =>
          rename_i Gx Gy
          obtain ⟨Ga', Gd, p, r2⟩ := out_ok ex (j + 1) rs ss h1 hp'
          refine ⟨Ga', Gd ++ Gx, ?_, .cons (G1 := []) (.fz (r.mono ex)) r2⟩
          rw [← List.append_assoc]
          exact List.perm_append_comm.trans (List.Perm.append_right Gx p)
        | mp z q ss =>
          rename_i Gx Gy
          obtain ⟨Ga', Gd, p, r2⟩ := out_ok ex (j + 1) rs ss h1 hp'
          refine ⟨Ga', Gd ++ Gx, ?_, .cons (G1 := []) (.fz (r.mono ex)) r2⟩
          rw [← List.append_assoc]
          exact List.perm_append_comm.trans (List.Perm.append_right Gx p)
        | fr z q ss =>
          rename_i Gx Gy
          obtain ⟨Ga', Gd, p, r2⟩ := out_ok ex (j + 1) rs ss h1 hp'
          refine ⟨Ga', Gd ++ Gx, ?_, .cons (G1 := []) (.fz (r.mono ex)) r2⟩
          rw [← List.append_assoc]
          exact List.perm_append_comm.trans (List.Perm.append_right Gx p)
      | lst w => exact key s st2 _ _ ss (by cases s <;> exact e)
      | dK w => exact key s st2 _ _ ss (by cases s <;> exact e)
      | dT w => exact key s st2 _ _ ss (by cases s <;> exact e)
      | ins c w => exact key s st2 _ _ ss (by cases s <;> exact e)
      | wo w _ => exact key s st2 _ _ ss (by cases s <;> exact e)
end
section
variable {P : Program} {w : World} {K : PySem.W.Frag} {Z : Zx} {mg : Str → Option Value} {base : Heap}
theorem body_ok {E : XK} {N ps : List Str} {c : Ct} {d : DS} {m : Nat} {vs : List V} {H : Hp} {Q : VK} (hm : Meets c ps.length m d) (hn : N.length = ps.length + m) (h : spOf K Z c vs H Q E) : vs.length = ps.length ∧ tS K Z (fun cls dx _ H => E cls dx H) d { nx := fun _ H' => Q .non H', rt := Q } (L2.start N vs) H := by
  obtain ⟨H0, F, Ga, ts, k, kx, wd, ra, hc, hk, hx, tf⟩ := h
  obtain ⟨hl, hd⟩ := hm ts k kx hc
  have hv : vs.length = ps.length := by rw [ra.length]; exact hl
  refine ⟨hv, ?_⟩
  have st0 : Sts K Z H0 vs (L2.start N vs) (entryS ts 0 ++ uns m) Ga := by
    have := sts_entry (pv := vs) (m := m) 0 ra fun j v h => by simpa using h
    unfold L2.start
    rw [hn, hv, show ps.length + m - ps.length = m by omega]
    exact this
  refine tS_seq wd st0 hd ⟨fun H1 G1 H1' σ1 st1 e1 wd1 ss1 k1 => ?_, fun H1 Gv G1 H1' σ1 st1 v t e1 wd1 rt ss1 k1 => ?_, fun _ _ _ _ _ _ _ _ z => z.elim, fun _ _ _ _ _ _ _ _ z => z.elim, ⟨tf, fun H1 G1 H1' σ1 st1 cls dx x e1 wd1 ss1 rx k1 => ?_⟩⟩
  · replace k1 : (match outT ts st1 0 with | some ts' => k (.fz .non) ts' | none => False) := k1
    cases q : outT ts st1 0 with
    | none => rw [q] at k1; exact k1.elim
    | some ts' =>
      rw [q] at k1
      obtain ⟨Ga', Gd, p, r2⟩ := out_ok e1 0 ra ss1 q fun i v h => by simpa using h
      exact hk H1 [] Ga' H1' .non (.fz .non) ts' e1 (wd1.sub p) (.fz .non) r2 k1
  · replace k1 : (match outT ts st1 0 with | some ts' => k t ts' | none => False) := k1
    cases q : outT ts st1 0 with
    | none => rw [q] at k1; exact k1.elim
    | some ts' =>
      rw [q] at k1
      obtain ⟨Ga', Gd, p, r2⟩ := out_ok e1 0 ra ss1 q fun i v h => by simpa using h
      refine hk H1 Gv Ga' H1' v t ts' e1 (wd1.sub (Gd := Gd) ?_) rt r2 k1
      rw [List.append_assoc]
      exact List.Perm.append_left Gv p
  · replace k1 : (match outT ts st1 0 with | some ts' => kx x ts' | none => False) := k1
    cases q : outT ts st1 0 with
    | none => rw [q] at k1; exact k1.elim
    | some ts' =>
      rw [q] at k1
      obtain ⟨Ga', Gd, p, r2⟩ := out_ok e1 0 ra ss1 q fun i v h => by simpa using h
      exact hx H1 Ga' H1' ts' cls dx x e1 (wd1.sub p) r2 rx k1
/-- THE RULE for a def -/
theorem fn_ok {x qual : Str} {st : Stmt} {f : Addr} {fd : FuncData} {N ps : List Str} {k m : Nat} {c : Ct} {d : DS} (F : Fun K x qual st f fd) (S : FnScope N ps (defScope st)) (hm : Meets c ps.length m d) (hn : N.length = ps.length + m)
    (hb : ∀ (cdv : Value) (A : Around) (outer : List Env) (s : Shared) (H : Hp) (E : XK), Room k (A.deeper (envOfC qual (defScope st) s.heap.objs.size f cdv)) →
      PZs (cxOf (L2.CX P w) P w K mg base N qual (defScope st) f cdv A outer s H E) Z (fun cls dx _ H => E cls dx H) (defBody st) d) : FnOk P w K mg base (L2.CX P w) (k + 1) f fd ps (spOf K Z c) :=
  F.okX S (fun vs H Q E h => (body_ok hm hn h).1) fun cdv A outer s H vs Q E hr h => ⟨_, hb cdv A outer s H E hr, (body_ok hm hn h).2⟩
/-- .. with defaults -/
theorem fn_okD {x qual : Str} {params : Arguments} {body : List Stmt} {scope : Scope} {dvs : List V} {kws : List (Str × V)} {f : Addr} {fd : FuncData} {N ps : List Str} {k m : Nat} {c : Ct} {d : DS} (F : FunD K x qual params body scope dvs kws f fd) (S : FnScope N ps scope) (hm : Meets c ps.length m d) (hn : N.length = ps.length + m)
    (hb : ∀ (cdv : Value) (A : Around) (outer : List Env) (s : Shared) (H : Hp) (E : XK), Room k (A.deeper (envOfC qual scope s.heap.objs.size f cdv)) →
      PZs (cxOf (L2.CX P w) P w K mg base N qual scope f cdv A outer s H E) Z (fun cls dx _ H => E cls dx H) body d) : FnOk P w K mg base (L2.CX P w) (k + 1) f fd ps (spOf K Z c) :=
  F.ok S (fun vs H Q E h => (body_ok hm hn h).1) fun cdv A outer s H vs Q E hr h => ⟨_, hb cdv A outer s H E hr, (body_ok hm hn h).2⟩
end

/-! ### calls -/
def dCall (c : Ct) (a : DA) (dws : List W) : DW := fun st k x => a st (fun rs st1 => onePk rs = true ∧ match argT st1 rs with
  | some ts => c (ts ++ dws.map .fz) (fun t ts' => k t (setA st1 rs ts')) (fun e ts' => x e (setA st1 rs ts'))
  | none => False) x
def isIns (c : Nat) (st : S) : R → Prop
  | .w (.ins c' _) => c' = c
  | .w _ => False
  | .pk i => match getT st i with
    | some (.ins c' _) => c' = c
    | _ => False
/-- o.m(..) of an instance of the class c -/
def dMeth (ct : Ct) (c : Nat) (d : DE) (a : DA) (dws : List W) : DW := fun st k x => d st (fun r st0 => isIns c st0 r ∧ a st0 (fun rs st1 => onePk (r :: rs) = true ∧ match argT st1 (r :: rs) with
  | some ts => ct (ts ++ dws.map .fz) (fun t ts' => k t (setA st1 (r :: rs) ts')) (fun e ts' => x e (setA st1 (r :: rs) ts'))
  | none => False) x) x
/-- C(..) -/
def dMake (ct : Ct) (c : Nat) (a : DA) (dws : List W) : DW := fun st k x => a st (fun rs st1 => noPk rs = true ∧ match argT st1 rs with
  | some ts => ct (.ins c [] :: (ts ++ dws.map .fz)) (fun t ts' => match t, ts' with
    | .fz .non, me :: _ => k me st1
    | _, _ => False) (fun e _ => x e st1)
  | none => False) x
section
variable {X : Cx} {Z : Zx} {E : XS} {e o a b : Expr} {es : List Expr} {da db dd : DE} {ds : DA} {pos apos p : Pos} {CX' : CXT} {k : Nat} {f C : Addr} {fd : FuncData} {ps : List Str} {dvs : List V} {dvl : List Value} {dws : List W} {c : Ct} {x m : Str}
theorem isIns_at {K : PySem.W.Frag} {H0 F H : Hp} {G : Fp} {pv : List V} {σ : L2.St} {st : S} {v : V} {r : R} {c : Nat} (wd : Wd H0 F G H) (ss : Sts K Z H0 pv σ st G) (rr : RepR K Z H0 σ v r) (h : isIns c st r) :
    ∃ a dx fs n, v = .ref a ∧ H a = some (.ins (Z.cls c) dx fs) ∧ fs.map (·.1) = (fldN c).take n := by
  cases rr with
  | w rv =>
    cases rv with
    | ins _ hi hn hr => cases h; exact ⟨_, _, _, _, rfl, wd.ex _ _ hi, by rw [hn, List.take_length]⟩
    | _ => exact h.elim
  | pk hv =>
    rename_i i
    replace h : (match getT st i with | some (.ins c' _) => c' = c | _ => False) := h
    cases q : getT st i with
    | none => rw [q] at h; exact h.elim
    | some t =>
      rw [q] at h
      cases t with
      | ins c' ts =>
        replace h : c' = c := h
        subst h
        obtain ⟨G1, A, B, h1, h2, _⟩ := ss.own q hv
        cases h1 with
        | @ins p c dx fs ts G _ n r => subst h2; exact ⟨p, dx, fs, _, rfl, wd.ow (p, .ins (Z.cls c') dx fs) (by simp), n⟩
      | _ => exact h.elim
theorem no_field {c n : Nat} {fs : List (Str × V)} {m : Str} (h : fs.map (·.1) = (fldN c).take n) (hm : m ∉ fldN c) : fs.lookup m = none := by
  have : m ∉ fs.map (·.1) := fun z => hm (List.mem_of_mem_take (by rw [← h]; exact z))
  clear h
  induction fs with
  | nil => rfl
  | cons p fs ih =>
    rw [List.map_cons, List.mem_cons, not_or] at this
    rw [List.lookup_cons]
    have e : (m == p.1) = false := by simpa using this.1
    rw [e]
    exact ih this.2
theorem make_core {K : PySem.W.Frag} {cid : Nat} (hz : Z.has cid = true) {σ : L2.St} {H1 H1' F : Hp} {G1 : Fp} {pv : List V} {st1 : S} {vs : List V} {rs : List R} {ts : List T} {k : T → S → Prop} {kx : KX} {Q : VK} (wd1 : Wd H1 F G1 H1') (ss1 : Sts K Z H1 pv σ st1 G1) (rr : RepRs K Z H1 σ vs rs) (hdw : ∀ H0, Reps K Z H0 dvs dws)
    (h1 : noPk rs = true) (q : argT st1 rs = some ts) (k1 : c (.ins cid [] :: (ts ++ dws.map .fz)) (fun t ts' => match t, ts' with
    | .fz .non, me :: _ => k me st1
    | _, _ => False) (fun e _ => kx e st1)) (hk : AccW K Z F pv σ H1 k Q) (hx : AccXe K Z E F pv σ H1 kx) : ∀ x dx, H1' x = none → H1' dx = none → dx ≠ x → spOf K Z c (.ref x :: (vs ++ dvs)) (upd (upd H1' dx (.own x)) x (.ins (Z.cls cid) dx [])) (fun v H2 => v = .non ∧ Q (.ref x) H2) (fun cls dx H => E cls dx σ H) := by
    intro x dx hxn hdn hne
    have ra := args_no rr h1 q
    have hx2 : (upd H1' dx (.own x)) x = none := by rw [upd_ne (fun z => hne z.symm)]; exact hxn
    have wd2 : Wd H1 F ((x, .ins (Z.cls cid) dx []) :: G1) (upd (upd H1' dx (.own x)) x (.ins (Z.cls cid) dx [])) := Wd.own (Ga := []) (Gb := G1) (wd1.junk hdn) hx2
    have r0 : RepT K Z H1 (.ref x) (.ins cid []) ([(x, .ins (Z.cls cid) dx [])]) := .ins (G := []) hz rfl .nil
    have w3 : Wd H1 F ([(x, HO.ins (Z.cls cid) dx [])] ++ G1) _ := wd2
    refine ⟨H1, addF F G1, [(x, .ins (Z.cls cid) dx [])] ++ [], _, _, _, ?_, .cons r0 (ra.app (.ofFz (hdw H1))), k1, fun H0' Gv Ga' H' v t ts' ex wd4 rt rts kt => ?_, fun H0' Ga' H' ts' cls d' xw ex wd4 rts rx kt => ?_, hx.tabs.add w3⟩
    · rw [List.append_nil]; exact w3.toCall
    · have w5 := w3.ofCall wd4
      cases t with
      | fz wv =>
        cases wv with
        | non =>
          cases rt with
          | fz rt =>
            cases rt
            cases rts with
            | cons r1 r2 =>
              rename_i me ts2 Gm G2
              refine ⟨rfl, hk H0' Gm G1 H' st1 (.ref x) me ex (w5.sub (Gd := G2) ?_) r1 (ss1.mono ex) kt⟩
              show ([] ++ (Gm ++ G2) ++ G1).Perm (Gm ++ G1 ++ G2)
              rw [List.nil_append, List.append_assoc, List.append_assoc]
              exact List.Perm.append_left Gm List.perm_append_comm
        | _ => exact kt.elim
      | _ => exact kt.elim
    · have w5 := w3.ofCall wd4
      exact hx H0' G1 H' st1 cls d' xw ex (w5.sub (Gd := Ga') List.perm_append_comm) (ss1.mono ex) rx kt
end
end Y
/-! a text times a number -/
namespace Y
open PySem L2
open PySem.Spec PyProof.Rows
def repS (z : Str) (n : Nat) : Str := ⟨(List.replicate n z.cps.toList).flatten.toArray⟩
theorem repS_0 (z : Str) : repS z 0 = Str.empty := rfl
theorem repS_1 (z : Str) : repS z 1 = z := by
  unfold repS
  cases z
  simp
theorem repS_fold (z : Str) (n : Nat) : (⟨(List.replicate n z.cps).foldl (· ++ ·) #[]⟩ : Str) = repS z n := by
  have key : ∀ (n : Nat) (a : Array Nat), ((List.replicate n z.cps).foldl (· ++ ·) a).toList = a.toList ++ (List.replicate n z.cps.toList).flatten := by
    intro n
    induction n with
    | zero => intro a; simp
    | succ n ih => intro a; rw [List.replicate_succ, List.foldl_cons, ih, List.replicate_succ, List.flatten_cons, Array.toList_append, List.append_assoc]
  unfold repS
  congr 1
  apply Array.toList_inj.mp
  rw [key]
  rfl
theorem repS_len (z : Str) (n : Nat) : (repS z n).length = n * z.length := by
  show (List.replicate n z.cps.toList).flatten.toArray.size = n * z.cps.size
  rw [List.size_toArray, List.length_flatten, List.map_replicate, List.sum_replicate_nat]
  rfl
def rRepS : R2 := fun x y H Q => ∃ (z : Str) (k : Int), x = .str z ∧ y = .int k ∧ -(2 ^ 63) ≤ k ∧ k < 2 ^ 63 ∧ z.length * k.toNat ≤ 1000000 ∧ Q (.str (repS z k.toNat)) H
theorem op_repS {X : Cx} : OpR X (binaryOp .Mult) rRepS := by
  intro pins s σ H x y v u Q I rx ry h
  obtain ⟨z, k, rfl, rfl, h1, h2, hz, q⟩ := h
  obtain ⟨t, rfl⟩ := rx
  obtain ⟨t', rfl⟩ := ry
  have hline : (1000000 : Nat) ≤ sizeLine := by decide
  refine P.mul_str (by rw [decide_eq_false (by omega), decide_eq_false (by omega)]; rfl) (fun hk _ => ?_) (fun hk _ => ?_) ?_
  · intro hgt
    have hk' : 0 < k := by omega
    have e : (z.length : Int) * k = ((z.length * k.toNat : Nat) : Int) := by
      rw [Int.natCast_mul]
      congr 1
      omega
    have : (z.length : Int) ≤ (2 ^ 63 - 1) / k := Int.le_ediv_of_mul_le hk' (by rw [e]; omega)
    omega
  · show decide (z.length * k.toNat > sizeLine) = false
    exact decide_eq_false (by omega)
  · split
    · rename_i hk
      rw [show k.toNat = 0 by omega, repS_0] at q
      exact ⟨by decide, .str Str.empty, H, I.tok _, ⟨_, rfl⟩, q⟩
    · rename_i hk
      split
      · rename_i h'
        have e : repS z k.toNat = z := by
          rw [Bool.or_eq_true] at h'
          rcases h' with h' | h'
          · rw [show k.toNat = 1 by have := eq_of_beq h'; omega]; exact repS_1 z
          · have h0 : z.length = 0 := eq_of_beq h'
            have : (repS z k.toNat).length = 0 := by rw [repS_len, h0, Nat.mul_zero]
            have a : z.cps = #[] := Array.eq_empty_of_size_eq_zero h0
            have b : (repS z k.toNat).cps = #[] := Array.eq_empty_of_size_eq_zero this
            cases z
            simp only at a
            subst a
            exact congrArg Str.mk b
        rw [e] at q
        exact ⟨.str z, H, I, ⟨_, rfl⟩, q⟩
      · refine ⟨?_, .str (repS z k.toNat), H, I.tok _, ⟨_, by rw [repS_fold]⟩, q⟩
        rw [repS_fold]
        show (repS z k.toNat).length ≤ _
        rw [repS_len, Nat.mul_comm]
        exact Nat.le_trans hz (by decide)
end Y
namespace Y
open PySem L2
open PySem.Spec PyProof.Rows
open Evl (Ex)

/-! ### + and * of whatever: numbers, texts, lists, tuples -/
def rPlus (K : PySem.W.Frag) : R2 := fun x y H Q => rI0 (fun i j => .int (i + j)) x y H Q ∨ (∃ i j, x = .str i ∧ y = .str j ∧ i.length + j.length ≤ sizeLine ∧ Q (.str (i ++ j)) H) ∨ rCat x y H Q ∨ rCatA K x y H Q
def oPlus : O2 := fun a b k => match a, b with
  | .int i, .int j => k (.int (i + j))
  | .str i, .str j => i.length + j.length ≤ sizeLine ∧ k (.str (i ++ j))
  | .lst i, .lst j => i.length + j.length ≤ sizeLine ∧ k (.lst (i ++ j))
  | .tup i, .tup j => i.length + j.length ≤ sizeLine ∧ k (.tup (i ++ j))
  | _, _ => False
def rTimes : R2 := fun x y H Q => rI CMulW (fun i j => .int (i * j)) x y H Q ∨ rRep x y H Q ∨ rRepS x y H Q
def oTimes : O2 := fun a b k => match a, b with
  | .int i, .int j => CMulW i j ∧ k (.int (i * j))
  | .lst i, .int j => (-(2 ^ 63) ≤ j ∧ j < 2 ^ 63 ∧ i.length * j.toNat ≤ sizeLine) ∧ k (.lst (List.replicate j.toNat i).flatten)
  | .str i, .int j => (-(2 ^ 63) ≤ j ∧ j < 2 ^ 63 ∧ i.length * j.toNat ≤ 1000000) ∧ k (.str (repS i j.toNat))
  | _, _ => False
section
variable {K : PySem.W.Frag} {Z : Zx}
theorem Reps.rep {H : Hp} {xs : List V} {ws : List W} (r : Reps K Z H xs ws) : ∀ n : Nat, Reps K Z H (List.replicate n xs).flatten (List.replicate n ws).flatten
  | 0 => .nil
  | n + 1 => by
    rw [List.replicate_succ, List.replicate_succ, List.flatten_cons, List.flatten_cons]
    exact r.append (Reps.rep r n)
theorem Fin.newL {H0 H : Hp} {k : W → Prop} {Q : VK} {xs : List V} {ws : List W} (f : Fin K Z H0 H k Q) (e : Ex H0 H) (r : Reps K Z H0 xs ws) (h : k (.lst ws)) : ∀ p, H p = none → Q (.ref p) (upd H p (.lst xs)) := fun p hp => by
  have g := Gr.one (o := .lst xs) e hp
  exact f _ _ _ _ g (.lst upd_same (r.mono g.e0)) h
theorem Fin.newT {H0 H : Hp} {k : W → Prop} {Q : VK} {xs : List V} {ws : List W} (f : Fin K Z H0 H k Q) (e : Ex H0 H) (r : Reps K Z H0 xs ws) (h : k (.tup ws)) : ∀ p, H p = none → Q (.ref p) (upd H p (.tup xs)) := fun p hp => by
  have g := Gr.one (o := .tup xs) e hp
  exact f _ _ _ _ g (.tup (.of upd_same) (r.mono g.e0)) h
theorem opd_plus : OpD K Z (rPlus K) oPlus := by
  intro H0 H v1 w1 v2 w2 k Q e r1 r2 o f
  unfold oPlus at o
  split at o
  · exact .inl ⟨_, _, r1.int_of, r2.int_of, f.same e .int o⟩
  · exact .inr (.inl ⟨_, _, r1.str_of, r2.str_of, o.1, f.same e .str o.2⟩)
  · obtain ⟨p, xs, rfl, h1, rs⟩ := r1.lst_of e
    obtain ⟨q, ys, rfl, h2, rs2⟩ := r2.lst_of e
    exact .inr (.inr (.inl ⟨p, q, xs, ys, rfl, rfl, h1, h2, by rw [rs.length, rs2.length]; exact o.1, f.newL e (rs.append rs2) o.2⟩))
  · rename_i wi wj
    obtain ⟨p, xs, rfl, h1, rs⟩ := r1.tup_of e
    obtain ⟨q, ys, rfl, h2, rs2⟩ := r2.tup_of e
    refine .inr (.inr (.inr ⟨p, q, xs, ys, rfl, rfl, h1, h2, by rw [rs.length, rs2.length]; exact o.1, fun z => ?_, fun z z2 => ?_, fun z z2 => f.newT e (rs.append rs2) o.2⟩))
    · subst z
      cases rs
      have o2 : k (.tup ([] ++ wj)) := o.2
      rw [List.nil_append] at o2
      cases r2 with
      | fz r2 => exact f.same e r2 o2
    · subst z2
      cases rs2
      have o2 : k (.tup (wi ++ [])) := o.2
      rw [List.append_nil] at o2
      cases r1 with
      | fz r1 => exact f.same e r1 o2
  · exact o.elim
theorem opd_times : OpD K Z rTimes oTimes := by
  intro H0 H v1 w1 v2 w2 k Q e r1 r2 o f
  unfold oTimes at o
  split at o
  · exact .inl ⟨_, _, r1.int_of, r2.int_of, o.1, f.same e .int o.2⟩
  · obtain ⟨p, xs, rfl, h1, rs⟩ := r1.lst_of e
    exact .inr (.inl ⟨p, _, xs, rfl, r2.int_of, h1, o.1.1, o.1.2.1, by rw [rs.length]; exact o.1.2.2, f.newL e (rs.rep _) o.2⟩)
  · exact .inr (.inr ⟨_, _, r1.str_of, r2.int_of, o.1.1, o.1.2.1, o.1.2.2, f.same e .str o.2⟩)
  · exact o.elim
end
/-! ### o[i] of whatever: a list, a tuple, a dict -/
def rSub (K : PySem.W.Frag) : R2 := fun x y H Q => rIx K x y H Q ∨ rDGet x y H Q
def oSub' : O2 := fun a b k => match a with
  | .lst _ => oIx a b k
  | .tup _ => oIx a b k
  | .dK _ => oDGet a b k
  | .dF _ => oDGet a b k
  | .str z => (match b with
    | .int i => z.length ≤ sizeLine ∧ ∃ c, L2.atI z.cps.toList i = some c ∧ k (.str ⟨#[c]⟩)
    | _ => False)
  | _ => False
theorem opd_sub {K : PySem.W.Frag} {Z : Zx} : OpD K Z (rSub K) oSub' := by
  intro H0 H v1 w1 v2 w2 k Q e r1 r2 o f
  cases w1 with
  | lst ws => exact .inl (opd_ix H0 H v1 _ v2 w2 k Q e r1 r2 o f)
  | tup ws => exact .inl (opd_ix H0 H v1 _ v2 w2 k Q e r1 r2 o f)
  | dK ws => exact .inr (opd_dget H0 H v1 _ v2 w2 k Q e r1 r2 o f)
  | dF ws => exact .inr (opd_dget H0 H v1 _ v2 w2 k Q e r1 r2 o f)
  | str z =>
    cases w2 with
    | int i =>
      obtain ⟨hl, c, hc, hk⟩ := o
      have e1 := r1.str_of
      have e2 := r2.int_of
      subst e1 e2
      exact .inl (.inr (.inr ⟨z, i, c, rfl, rfl, hl, hc, f.same e .str hk⟩))
    | _ => exact o.elim
  | _ => exact o.elim
section
variable {X : Cx} {Z : Zx} {E : XS} {e a b c o i v : Expr} {es : List Expr} {da db dc dd dk dv : DE} {ds : DA} {dl : DL} {dw : DW} {pos pos' apos cpos p : Pos}
theorem ix_dict (hu : X.A.units + 1 < cLine) : IxR X rDGet := by
  intro value slice pins s σ H x y v u Q I rx ry h hs
  obtain ⟨a, v', rfl, g, q⟩ := h
  cases rx
  have hT := dict_typeIs I g
  have h2 : wpAny (model X.prog X.w) X.A (getItem (.ref a) u) (EP X pins σ Q) X.xe s := d_getItem hu I g ry fun w' s3 I3 rw' => ⟨v', H, I3, rw', q⟩
  unfold subscriptTail
  refine wpAny_bind ?_
  rw [getitemInPython_of_ne hT.not_modules]
  refine wpAny_bind (wpAny_specialOf hT PySem.F.slot_dict_getitem.lookup ?_)
  have fin : wpAny (model X.prog X.w) X.A (subscripted slice false (.ref a) u) (fun r s₃ => wpAny (model X.prog X.w) X.A (letTemporaryGo value (.ref a) r >>= fun _ => pure r) (EP X pins σ Q) X.xe s₃) X.xe s := by
    rw [hs]
    exact wpAny_operating (wpAny_mono h2 (fun r s₃ h₃ => wpAny_bind (wpAny_letTemporaryGo (wpAny_pure h₃))) fun _ _ x => x)
  first
    | exact wpAny_pure (wpAny_bind fin)
    | exact wpAny_bind (wpAny_pure (wpAny_bind fin))
    | exact wpAny_bind fin
theorem pd_subs (hu : X.A.units + 1 < cLine) (ha : PD X Z E a da) (hb : PD X Z E b db) (hs : PlainIx b) : PD X Z E (.Subscript a b pos) (dOp oSub' da db) := pd_ix (r := rSub X.K) (ix_seq.or (ix_dict hu)) opd_sub ha hb hs
theorem pd_plus (ha : PD X Z E a da) (hb : PD X Z E b db) : PD X Z E (.BinOp a .Add b pos) (dOp oPlus da db) := pd_op (r := rPlus X.K) (op_add.or (op_add_str.or (op_cat.or op_catA))) opd_plus ha hb
theorem pd_times (ha : PD X Z E a da) (hb : PD X Z E b db) : PD X Z E (.BinOp a .Mult b pos) (dOp oTimes da db) := pd_op (r := rTimes) (op_mulW.or (op_rep.or op_repS)) opd_times ha hb
theorem pd_div' (ha : PD X Z E a da) (hb : PD X Z E b db) : PD X Z E (.BinOp a .FloorDiv b pos) (dOp oDiv da db) := pd_div ha hb
theorem pd_min (ha : PD X Z E a da) (hb : PD X Z E b db) : PD X Z E (.BinOp a .Sub b pos) (dOp oSub da db) := pd_op op_sub (opd_I0 fun _ _ _ => .int) ha hb
/-! a < b < c -/
def dChain (o o' : O2) (a b c : DE) : DE := fun st k x => a st (fun r1 st1 => b st1 (fun r2 st2 => match r1.val st2, r2.val st2 with
  | some w1, some w2 => o w1 w2 fun z => match z with
    | .bl t => (t = true → c st2 (fun r3 st3 => match r2.val st3, r3.val st3 with
        | some u2, some u3 => o' u2 u3 fun z => k (.w z) st3
        | _, _ => False) x) ∧ (t = false → k (.w (.bl false)) st2)
    | _ => False
  | _, _ => False) x) x
theorem dchain_ok {r r' : R2} {o o' : O2} {σ : L2.St} {H : Hp} {Q : VK} (h1 : OpD X.K Z r o) (h2 : OpD X.K Z r' o') (q : tE X.K Z E (dChain o o' da db dc) σ H Q) : tChain r r' (tE X.K Z E da) (tE X.K Z E db) (tE X.K Z E dc) σ H Q := by
  obtain ⟨H0, F, G, pv, st, k, kx, wd, ss, hd, hk, hx⟩ := q
  refine tE_seq wd ss hx hd fun H1 G1 H1' st1 v1 r1 e1 wd1 ss1 rr1 k1 => ?_
  refine tE_seq wd1 ss1 (hx.up e1) k1 fun H2 G2 H2' st2 v2 r2 e2 wd2 ss2 rr2 k2 => ?_
  cases q1 : r1.val st2 with
  | none => rw [q1] at k2; exact k2.elim
  | some w1 =>
    cases q2 : r2.val st2 with
    | none => rw [q1, q2] at k2; exact k2.elim
    | some w2 =>
      rw [q1, q2] at k2
      refine h1 H2 H2' v1 w1 v2 w2 _ _ wd2.ex ((rr1.mono e2).peek ss2 wd2 q1) (rr2.peek ss2 wd2 q2) k2 fun H3 H3' z wz g rz kz => ?_
      have wd3 := wd2.grow g
      have ss3 := ss2.mono g.e0
      have e03 := e1.trans (e2.trans g.e0)
      cases wz with
      | bl t =>
        cases rz
        refine ⟨t, rfl, ?_⟩
        cases t with
        | false => exact iteF (hk _ _ _ _ _ _ e03 wd3 ss3 (.w .bl) (kz.2 rfl))
        | true =>
          refine iteT (tE_seq wd3 ss3 (hx.up e03) (kz.1 rfl) fun H4 G4 H4' st4 v4 r4 e4 wd4 ss4 rr4 k4 => ?_)
          cases q3 : r2.val st4 with
          | none => rw [q3] at k4; exact k4.elim
          | some u2 =>
            cases q4 : r4.val st4 with
            | none => rw [q3, q4] at k4; exact k4.elim
            | some u3 =>
              rw [q3, q4] at k4
              exact h2 H4 H4' v2 u2 v4 u3 _ _ wd4.ex ((rr2.mono (g.e0.trans e4)).peek ss4 wd4 q3) (rr4.peek ss4 wd4 q4) k4 fun H5 H5' z wz g5 rz kz => hk _ _ _ _ _ _ (e03.trans (e4.trans g5.e0)) (wd4.grow g5) (ss4.mono g5.e0) (.w rz) kz
      | _ => exact kz.elim
theorem pd_chain {op op' : CmpOp} {r r' : R2} {o o' : O2} (h1 : OpR X (compareOp op) r) (h2 : OpR X (compareOp op') r') (d1 : OpD X.K Z r o) (d2 : OpD X.K Z r' o') (ha : PD X Z E a da) (hb : PD X Z E b db) (hc : PD X Z E c dc)
    (hm : lastMarks [op, op'] [b, c] = false := by with_unfolding_all rfl) : PD X Z E (.Compare a [op, op'] [b, c] pos) (dChain o o' da db dc) := pe_weak (pe_chain h1 h2 ha hb hc hm) fun _ _ _ => dchain_ok d1 d2
theorem ptd_chain {op op' : CmpOp} {r r' : R2} {o o' : O2} (h1 : OpR X (compareOp op) r) (h2 : OpR X (compareOp op') r') (d1 : OpD X.K Z r o) (d2 : OpD X.K Z r' o') (ha : PD X Z E a da) (hb : PD X Z E b db) (hc : PD X Z E c dc)
    (hm : lastMarks [op, op'] [b, c] = false := by with_unfolding_all rfl) : PTD X Z E (.Compare a [op, op'] [b, c] pos) (dTest (dChain o o' da db dc)) := pt_weak (pt_chain h1 h2 ha hb hc hm) fun _ _ _ q => dtest_ok (fun _ _ _ => dchain_ok d1 d2) q

/-! ### a loop over a list or a tuple -/
def iSq (d : DE) : DI := fun st k x => d st (fun r st1 => match r with
  | .w (.lst ws) => k ws st1
  | .w (.tup ws) => k ws st1
  | .w (.str z) => k (z.cps.toList.map fun c => .str ⟨#[c]⟩) st1
  | _ => False) x
theorem it_str {K : PySem.W.Frag} {Z : Zx} {H0 : Hp} (z : Str) : ItOk K Z H0 (Its z) (z.cps.toList.map fun c => W.str ⟨#[c]⟩) := fun i H Hc e e' => by
  refine ⟨fun hl => show z.cps.size ≤ i by simpa using hl, fun w hw => ?_⟩
  rw [List.getElem?_map] at hw
  obtain ⟨c, h1, rfl⟩ := Option.map_eq_some_iff.mp hw
  obtain ⟨h2, _⟩ := List.getElem?_eq_some_iff.mp h1
  refine ⟨show i < z.cps.size by simpa using h2, fun x H' y => ?_⟩
  obtain ⟨rfl, c', h3, rfl⟩ := y
  rw [Array.getElem?_toList] at h1
  rw [h1] at h3
  cases h3
  exact ⟨Hc, Gr.refl e', .str⟩
theorem pi_sq {tg l : Expr} {tl : TE} (hl : PE X l tl) : PI X tg l (fun σ H R => tl σ H fun x H1 => (∃ a, x = .ref a ∧ (∃ xs, SqL X.K H1 a xs) ∧ R (Itl X.K a) H1) ∨ (∃ a, x = .ref a ∧ (∃ xs, SqT X.K H1 a xs) ∧ R (Itt X.K a) H1) ∨ ∃ z, x = .str z ∧ R (Its z) H1) := by
  refine ⟨fun pins s σ H R I h => ?_⟩
  refine thn (hl.run pins s σ H _ I h) fun v s1 ⟨x, H1, I1, r1, q1⟩ => ?_
  rcases q1 with ⟨a, e, ⟨xs, hq⟩, q⟩ | ⟨a, e, ⟨xs, hq⟩, q⟩ | ⟨z, e, q⟩
  · subst e
    cases r1
    obtain ⟨its, rv, p, hz⟩ := I1.list hq
    refine wpAny_pyIter_list p.isList ?_
    refine ⟨s1.heap.objs.size, [s1.heap.objs.size], _, _, H1, rfl, I1.kept (t' := s1.toks) fun b o e => Heap.get?_push_of_some _ e, turn_list a _, ⟨_, Heap.get?_push_size _ rfl, rfl, rfl⟩, fun b hb => ?_, q⟩
    have e : b = s1.heap.objs.size := by simpa using hb
    subst e
    exact I1.fpOk (Nat.le_refl _) (I1.hok.fresh (Nat.le_refl _))
  · subst e
    cases r1
    obtain ⟨its, rv, p, hz⟩ := I1.tuple hq
    refine wpAny_pyIter_tuple (show s1.heap.IsTuple a its.toArray from p) ?_
    refine ⟨s1.heap.objs.size, [s1.heap.objs.size], _, _, H1, rfl, I1.kept (t' := s1.toks) fun b o e => Heap.get?_push_of_some _ e, turn_tuple a _, ⟨_, Heap.get?_push_size _ rfl, rfl, rfl⟩, fun b hb => ?_, q⟩
    have e : b = s1.heap.objs.size := by simpa using hb
    subst e
    exact I1.fpOk (Nat.le_refl _) (I1.hok.fresh (Nat.le_refl _))
  · subst e
    obtain ⟨t, rfl⟩ := r1
    cases ha : z.cps.all (· < 128)
    · exact wpAny_pyIter_wide ha (pi_one (tk := s1.toks) I1 _ (turn_str _ z t "str_iterator" (.inr rfl)) ⟨_, Heap.get?_push_size _ rfl, rfl, rfl⟩ q)
    · exact wpAny_pyIter_ascii ha (pi_one (tk := s1.toks) I1 _ (turn_str _ z t "str_ascii_iterator" (.inl rfl)) ⟨_, Heap.get?_push_size _ rfl, rfl, rfl⟩ q)
theorem pid_sq {tg : Expr} (h : PD X Z E e da) : PID X Z E tg e (iSq da) := by
  refine pi_weak (pi_sq h) fun σ H Q q => ?_
  obtain ⟨H0, F, G, pv, st, k, kx, wd, ss, hd, hk, hx⟩ := q
  refine tE_seq wd ss hx hd fun H1 G1 H1' st1 v r e1 wd1 ss1 rr k1 => ?_
  cases rr with
  | pk _ => exact k1.elim
  | w rv => cases rv with
    | lst hs rs => exact .inl ⟨_, rfl, ⟨_, .of (wd1.ex _ _ hs)⟩, hk _ _ _ _ _ _ e1 wd1 ss1 (it_list (.of hs) rs) k1⟩
    | tup hs rs => exact .inr (.inl ⟨_, rfl, ⟨_, Evl.ex_t wd1.ex hs⟩, hk _ _ _ _ _ _ e1 wd1 ss1 (it_tup hs rs) k1⟩)
    | str => exact .inr (.inr ⟨_, rfl, hk _ _ _ _ _ _ e1 wd1 ss1 (it_str _) k1⟩)
    | _ => exact k1.elim

/-! ### truth of a value -/
def tru : W → Option Bool
  | .non => some false
  | .bl b => some b
  | .int i => some (i != 0)
  | .str s => if s.length ≤ sizeLine then some ((s.length : Int) != 0) else none
  | .lst ws => some (!ws.isEmpty)
  | .tup ws => some (!ws.isEmpty)
  | _ => none
def dTru (d : DE) : DT := fun st k x => d st (fun r st1 => match (r.val st1).bind tru with
  | some b => k b st1
  | none => False) x
theorem reps_empty {K : PySem.W.Frag} {H : Hp} {xs : List V} {ws : List W} (r : Reps K Z H xs ws) : (!xs.isEmpty) = !ws.isEmpty := by cases r <;> rfl
theorem tru_val {K : PySem.W.Frag} {H0 H : Hp} {v : V} {w : W} {b : Bool} (e : Ex H0 H) (r : RepP K Z H0 H v w) (h : tru w = some b) : TruV K v H b := by
  cases w with
  | non => rw [r.non_of]; cases h; rfl
  | bl c => rw [r.bl_of]; cases h; rfl
  | int i => rw [r.int_of]; cases h; rfl
  | str s =>
    rw [r.str_of]
    replace h : (if s.length ≤ sizeLine then some ((s.length : Int) != 0) else none) = some b := h
    by_cases hl : s.length ≤ sizeLine
    · rw [if_pos hl] at h; cases h; exact ⟨hl, rfl⟩
    · rw [if_neg hl] at h; cases h
  | lst ws =>
    obtain ⟨p, xs, rfl, h1, rs⟩ := r.lst_of e
    cases h
    exact .inl ⟨xs, .of h1, (reps_empty rs).symm⟩
  | tup ws =>
    obtain ⟨p, xs, rfl, h1, rs⟩ := r.tup_of e
    cases h
    exact .inr (.inl ⟨xs, h1, (reps_empty rs).symm⟩)
  | _ => cases h
theorem ptd_tru (h : PD X Z E e da) (he : ∀ whole, isTrue e X.env whole = (do let v ← whole; standAt e.pos; holding [v] (truthy v)) := by intro _; rfl) : PTD X Z E e (dTru da) := by
  refine pt_weak (pt_truth h he) fun σ H Q q => ?_
  obtain ⟨H0, F, G, pv, st, k, kx, wd, ss, hd, hk, hx⟩ := q
  refine tE_seq wd ss hx hd fun H1 G1 H1' st1 v r e1 wd1 ss1 rr k1 => ?_
  cases q1 : (r.val st1).bind tru with
  | none => rw [q1] at k1; exact k1.elim
  | some b =>
    rw [q1] at k1
    obtain ⟨w, h1, h2⟩ := Option.bind_eq_some_iff.mp q1
    exact ⟨b, tru_val wd1.ex (rr.peek ss1 wd1 h1) h2, hk _ _ _ _ _ e1 wd1 ss1 k1⟩

/-! ### methods that change an owned list -/
/-- f: the arguments, the list; the answer, the list behind -/
def dMutL (f : List W → List W → (W → List W → Prop) → Prop) (d : DE) (a : DA) : DE := fun st k x => d st (fun r st0 => match r with
  | .pk i => (match getT st0 i with
    | some (.lst _) => a st0 (fun rs st1 => (match frs' rs, getT st1 i with
      | some ws, some (.lst xs) => (f ws xs fun w ys => k (.w w) (setT st1 i (.lst ys)))
      | _, _ => False)) x
    | _ => False)
  | _ => False) x
def MutD (K : PySem.W.Frag) (Z : Zx) (r : V → List V → Hp → VK → Prop) (f : List W → List W → (W → List W → Prop) → Prop) : Prop :=
  ∀ H0 H p xs ws vs us k Q, Ex H0 H → H p = some (.lst xs) → Reps K Z H0 xs ws → Reps K Z H0 vs us → f us ws k → (∀ v w ys zs, Rep K Z H0 v w → Reps K Z H0 ys zs → k w zs → Q v (upd H p (.lst ys))) → r (.ref p) vs H Q
theorem dmut_ok {f : List W → List W → (W → List W → Prop) → Prop} {r : V → List V → Hp → VK → Prop} (hm : MutD X.K Z r f) {σ : L2.St} {H : Hp} {Q : VK} (q : tE X.K Z E (dMutL f dd ds) σ H Q) : tBM X.K "list" r (tE X.K Z E dd) (tAr X.K Z E ds) σ H Q := by
  obtain ⟨H0, F, G, pv, st, k, kx, wd, ss, hd, hk, hx⟩ := q
  refine tE_seq wd ss hx hd fun H1 G1 H1' st1 v r1 e1 wd1 ss1 rr k1 => ?_
  cases rr with
  | w _ => exact k1.elim
  | pk hv =>
    rename_i i
    replace k1 : (match getT st1 i with
      | some (.lst _) => ds st1 (fun rs st2 => (match frs' rs, getT st2 i with
        | some ws, some (.lst xs) => (f ws xs fun w ys => k (.w w) (setT st2 i (.lst ys)))
        | _, _ => False)) kx
      | _ => False) := k1
    cases q1 : getT st1 i with
    | none => rw [q1] at k1; exact k1.elim
    | some t =>
      rw [q1] at k1
      cases t with
      | lst xs0 =>
        obtain ⟨G0, A, B, h1, h2, _⟩ := ss1.own q1 hv
        cases h1 with
        | @lst p xs0' _ rs0 =>
          subst h2
          have hp0 : H1' p = some (.lst xs0') := wd1.ow (p, _) (by simp)
          refine ⟨.inl ⟨rfl, _, .of hp0⟩, ?_⟩
          refine tA_seq wd1 ss1 (hx.up e1) k1 fun H2 G2 H2' st2 vs rs e2 wd2 ss2 rrs k2 => ?_
          replace k2 : (match frs' rs, getT st2 i with
            | some ws, some (.lst xs) => (f ws xs fun w ys => k (.w w) (setT st2 i (.lst ys)))
            | _, _ => False) := k2
          cases q2 : frs' rs with
          | none => rw [q2] at k2; exact k2.elim
          | some ws =>
            cases q3 : getT st2 i with
            | none => rw [q2, q3] at k2; exact k2.elim
            | some t =>
              rw [q2, q3] at k2
              cases t with
              | lst xs =>
                obtain ⟨G3, A3, B3, h4, h5, h6⟩ := ss2.own q3 hv
                cases h4 with
                | @lst _ xs3 _ rs3 =>
                  subst h5
                  have hp : H2' p = some (.lst xs3) := wd2.ow (p, _) (by simp)
                  refine hm H2 H2' p xs3 xs vs ws _ Q wd2.ex hp rs3 (rrs.frs q2) k2 fun v w ys zs rv ry kk => ?_
                  exact hk _ _ _ _ _ _ (e1.trans e2) wd2.write (h6 H2 (.lst zs) _ (Ex.refl _) (.lst ry)) (.w rv) kk
              | _ => exact k2.elim
      | _ => exact k1.elim
def fAppend : List W → List W → (W → List W → Prop) → Prop := fun ws xs k => match ws with
  | [w] => xs.length < sizeLine ∧ k .non (xs ++ [w])
  | _ => False
theorem mut_append {K : PySem.W.Frag} : MutD K Z rAppend fAppend := by
  intro H0 H p xs ws vs us k Q e hp r1 r2 h f
  unfold fAppend at h
  split at h
  · cases r2 with
    | cons r t =>
      cases t
      exact ⟨p, xs, _, rfl, rfl, hp, by rw [r1.length]; exact h.1, f _ _ _ _ .non (r1.append (.one r)) h.2⟩
  · exact h.elim
theorem pd_append (ho : PD X Z E o dd) (ha : PAD X Z E [e] ds)
    (hbase : attributeBase o "append" X.env (eval o X.env) = eval o X.env := by rfl)
    (hfew : ((backTo cpos (starEach [e] X.env)).all (fun x => !x.1) && (backToKw cpos (keywordEach [] X.env)).all (fun x => x.1.isSome)
      && decide ([e].length + ([] : List Keyword).length + (if ([] : List Keyword).isEmpty then 0 else 1) < 30)) = true := by rfl)
    (hline : (apos.endLine == cpos.line) = true := by rfl) (hs : starEach [e] X.env = (false, eval e X.env) :: starEach [] X.env := by rfl) (hplain : (backTo cpos (starEach [] X.env)).any (·.1) = false := by rfl) :
    PD X Z E (.Call (.Attribute o "append" apos) [e] [] cpos) (dMutL fAppend dd ds) :=
  pe_weak (pe_bm PySem.F.plainAttrs_list PySem.F.slot_list_append PySem.F.type_list_append mt_append ho ha hbase hfew hline hs hplain) fun _ _ _ => dmut_ok mut_append
end
end Y
namespace Y
open PySem L2
open PySem.Spec PyProof.Rows
open Evl (Ex)

/-! ### how a call's values reach the parameters: u positional, d the defaults, k the keywords -/
inductive Src where
  | u (i : Nat) | d (i : Nat) | k (i : Nat)
def Src.of {α : Type} (us ds ks : List α) : Src → Option α
  | .u i => us[i]?
  | .d i => ds[i]?
  | .k i => ks[i]?
def addO {α : Type} : Option α → List α → List α
  | some a, l => a :: l
  | none, l => l
def pick {α : Type} (pl : List Src) (us ds ks : List α) : List α := match pl with
  | [] => []
  | s :: pl => addO (s.of us ds ks) (pick pl us ds ks)
/-- the same, with the new instance in front -/
def Src.sh : Src → Src
  | .u i => .u (i + 1)
  | s => s
def shp (pl : List Src) : List Src := .u 0 :: pl.map Src.sh
theorem pick_sh {α : Type} (x : α) (us ds ks : List α) : ∀ pl : List Src, pick (shp pl) (x :: us) ds ks = x :: pick pl us ds ks := by
  intro pl
  show x :: pick (pl.map Src.sh) (x :: us) ds ks = _
  congr 1
  induction pl with
  | nil => rfl
  | cons s pl ih =>
    have e : (Src.sh s).of (x :: us) ds ks = s.of us ds ks := by cases s <;> rfl
    show addO ((Src.sh s).of (x :: us) ds ks) (pick (pl.map Src.sh) (x :: us) ds ks) = addO (s.of us ds ks) (pick pl us ds ks)
    rw [e, ih]
theorem vals_none {vs : List V} {us : List Value} {i : Nat} (r : Vals vs us) (h : vs[i]? = none) : us[i]? = none := by
  have := List.getElem?_eq_none_iff.mp h
  exact List.getElem?_eq_none_iff.mpr (by rw [← r.length]; exact this)
theorem pick_rel {vs ds zs : List V} {us its ws : List Value} (r1 : Vals vs us) (r2 : Vals ds its) (r3 : Vals zs ws) : ∀ pl : List Src, Vals (pick pl vs ds zs) (pick pl us its ws)
  | [] => .nil
  | s :: pl => by
    have key : ∀ {xs : List V} {ys : List Value} {i : Nat}, Vals xs ys → Vals (addO xs[i]? (pick pl vs ds zs)) (addO ys[i]? (pick pl us its ws)) := by
      intro xs ys i r
      cases q : xs[i]? with
      | none => rw [vals_none r q]; exact pick_rel r1 r2 r3 pl
      | some v =>
        obtain ⟨u, h1, h2⟩ := r.get q
        rw [h1]
        exact .cons h2 (pick_rel r1 r2 r3 pl)
    cases s with
    | u i => exact key (i := i) r1
    | d i => exact key (i := i) r2
    | k i => exact key (i := i) r3
section
variable {K : PySem.W.Frag} {Z : Zx} {H : Hp} {σ : L2.St}
theorem RepRs.getV : ∀ {vs rs} {i : Nat}, RepRs K Z H σ vs rs → match vs[i]? with
    | some v => ∃ r, rs[i]? = some r ∧ RepR K Z H σ v r
    | none => rs[i]? = none
  | _, _, i, .nil => by simp
  | _, _, 0, .cons h t => ⟨_, rfl, h⟩
  | _, _, i + 1, .cons (vs := vs) (rs := rs) h t => by
    have := RepRs.getV (i := i) t
    simpa using this
theorem pick_rr {vs ds zs : List V} {us its ws : List R} (r1 : RepRs K Z H σ vs us) (r2 : RepRs K Z H σ ds its) (r3 : RepRs K Z H σ zs ws) : ∀ pl : List Src, RepRs K Z H σ (pick pl vs ds zs) (pick pl us its ws)
  | [] => .nil
  | s :: pl => by
    have key : ∀ {xs : List V} {ys : List R} {i : Nat}, RepRs K Z H σ xs ys → RepRs K Z H σ (addO xs[i]? (pick pl vs ds zs)) (addO ys[i]? (pick pl us its ws)) := by
      intro xs ys i r
      have := RepRs.getV (i := i) r
      cases q : xs[i]? with
      | none => rw [q] at this; rw [this]; exact pick_rr r1 r2 r3 pl
      | some v =>
        rw [q] at this
        obtain ⟨u, h1, h2⟩ := this
        rw [h1]
        exact .cons h2 (pick_rr r1 r2 r3 pl)
    cases s with
    | u i => exact key (i := i) r1
    | d i => exact key (i := i) r2
    | k i => exact key (i := i) r3
theorem RepRs.ofW : ∀ {vs ws}, Reps K Z H vs ws → RepRs K Z H σ vs (ws.map .w)
  | _, _, .nil => .nil
  | _, _, .cons h t => .cons (.w h) (RepRs.ofW t)
theorem RepRs.length : ∀ {vs rs}, RepRs K Z H σ vs rs → vs.length = rs.length
  | _, _, .nil => rfl
  | _, _, .cons _ t => by rw [List.length_cons, List.length_cons, RepRs.length t]
end
section
variable {K : PySem.W.Frag} {x qual : Str} {params : Arguments} {body : List Stmt} {scope : Scope} {dvs : List V} {f : Addr} {fd : FuncData} {ps : List Str}
theorem bind0 (F : FunD K x qual params body scope [] [] f fd) (n : Nat) (ks : List Str) (pl : List Src)
    (h : ∀ (kV doc pm : Value) (an : Option Addr) (cdv ct : Value) (us ws : List Value), us.length = n → ws.length = ks.length → bindArgs (PySem.W.fnOf x qual params body scope .none kV doc pm an cdv ct) ⟨us, ks.zip ws⟩ = pure (ps.zip (pick pl us [] ws))) :
    ∃ its : List Value, KBn K fd ps n ks (fun us ws => pick pl us its ws) (fun vs zs => pick pl vs [] zs) := by
  obtain ⟨oc, od, dV, kV, doc, pm, an, cdv, ct, osl, rfl, lk, hcd, hD, hK⟩ := F.ex
  rcases hD with ⟨_, rfl⟩ | ⟨e, _⟩
  · exact ⟨[], ⟨fun s us ws X l1 l2 => .of_eq (h kV doc pm an cdv ct us ws l1 l2), fun r1 r2 => pick_rel r1 .nil r2 pl⟩⟩
  · exact absurd rfl e
theorem bindD (F : FunD K x qual params body scope dvs [] f fd) (n : Nat) (ks : List Str) (pl : List Src) (hd : dvs ≠ [])
    (h : ∀ (T : Addr) (kV doc pm : Value) (an : Option Addr) (cdv ct : Value) (us its ws : List Value), us.length = n → its.length = dvs.length → ws.length = ks.length →
      ∃ k, bindArgs (PySem.W.fnOf x qual params body scope (.ref T) kV doc pm an cdv ct) ⟨us, ks.zip ws⟩ = seqItems? (.ref T) >>= k ∧ k (some its.toArray) = pure (ps.zip (pick pl us its ws))) :
    ∃ its : List Value, KBn K fd ps n ks (fun us ws => pick pl us its ws) (fun vs zs => pick pl vs dvs zs) :=
  F.kbindsD n ks (fun us its ws => pick pl us its ws) hd (fun r1 r2 r3 => pick_rel r1 r2 r3 pl) h
end

/-! ### the calls of the library, with keywords, for methods and without positional values -/
section
variable {X : Cx} {CX : CXT} {k n : Nat} {f C : Addr} {fd : FuncData} {ps ks : List Str} {sp : Sp} {E : XS} {x m : Str} {p pos apos : Pos} {e o : Expr} {es : List Expr} {kws : List Keyword} {t tk : TA} {ta : TE} {g : List Value → List Value → List Value} {gV : List V → List V → List V}
/-- what a call may let out, at the slots as they stand -/
def PassesS (CX : CXT) (X : Cx) (E : XS) : Prop := ∀ σ, PassesAt CX X σ (fun cls d H => E cls d σ H)
abbrev tCallV (n m : Nat) (sp : Sp) (gV : List V → List V → List V) (E : XS) (t tk : TA) : TE := fun σ H Q => t σ H fun vs H1 => tk σ H1 fun zs H2 => vs.length = n ∧ zs.length = m ∧ sp (gV vs zs) H2 Q (fun cls d H => E cls d σ H)
abbrev tMakeV (C : Addr) (n m : Nat) (sp : Sp) (gV : List V → List V → List V) (E : XS) (t tk : TA) : TE := fun σ H Q => t σ H fun vs H1 => tk σ H1 fun zs H2 => vs.length = n ∧ zs.length = m ∧
  ∀ x dx, H2 x = none → H2 dx = none → dx ≠ x → sp (gV (.ref x :: vs) zs) (upd (upd H2 dx (.own x)) x (.ins C dx [])) (fun v H3 => v = .non ∧ Q (.ref x) H3) (fun cls d H => E cls d σ H)
theorem run_V {pins : List (Addr × Obj)} {σ : L2.St} {H : Hp} {s : Shared} {Q : VK} {us ws : List Value} {vs zs : List V} (F : FnOk X.prog X.w X.K X.mg X.base CX k f fd ps sp) (hr : Room k X.A) (hb : KBn X.K fd ps n ks g gV) (hx : PassesS CX X E)
    (I : Inv X pins σ H s) (r : Vals vs us) (rz : Vals zs ws) (l1 : vs.length = n) (l2 : zs.length = ks.length) (h : sp (gV vs zs) H Q (fun cls d H => E cls d σ H)) : wpAny (model X.prog X.w) X.A (call (.ref f) us (ks.zip ws)) (EP X pins σ Q) X.xe s := by
  have to := hb.to s us ws I.kIn (r.length ▸ l1) (rz.length ▸ l2)
  refine wpAny_call (codeAny_mono (F.run X.A X.stack s H ⟨us, ks.zip ws⟩ (g us ws) (gV vs zs) Q _ hr I.env0 to (hb.rel r rz) h) fun res s' hq => ?_)
  rcases res with er | fl
  · exact hx σ pins H s er s' I hq
  · cases fl with
    | ret u => exact I.after hq
    | _ => exact False.elim hq
theorem run_mkV {pins : List (Addr × Obj)} {σ : L2.St} {H : Hp} {s : Shared} {Q : VK} {us ws : List Value} {vs zs : List V} (M : Mk X.K C f) (F : FnOk X.prog X.w X.K X.mg X.base CX k f fd ps sp) (hr : Room (k + 1) X.A) (hb : KBn X.K fd ps (n + 1) ks g gV) (hx : PassesS CX X E)
    (I : Inv X pins σ H s) (r : Vals vs us) (rz : Vals zs ws) (l1 : vs.length = n) (l2 : zs.length = ks.length)
    (h : ∀ x dx, H x = none → H dx = none → dx ≠ x → sp (gV (.ref x :: vs) zs) (upd (upd H dx (.own x)) x (.ins C dx [])) (fun v H2 => v = .non ∧ Q (.ref x) H2) (fun cls d H => E cls d σ H)) :
    wpAny (model X.prog X.w) X.A (call (.ref C) us (ks.zip ws)) (EP X pins σ Q) X.xe s := by
  have I2 := Inv.made (C := C) I
  have rx : Vals (V.ref (s.heap.objs.size + 1) :: vs) (Value.ref (s.heap.objs.size + 1) :: us) := .cons rfl r
  have hq := h _ _ (I.hok.fresh (Nat.le_succ _)) (I.hok.fresh (Nat.le_refl _)) (Nat.ne_of_lt (Nat.lt_succ_self _))
  have to := hb.to _ (Value.ref (s.heap.objs.size + 1) :: us) ws I2.kIn (by rw [← rx.length, List.length_cons, l1]) (by rw [← rz.length, l2])
  refine wpAny_call (make_map (f := f) I.kIn M.makes M.init (beq_iff_eq.mp M.fn) (codeAny_mono (F.run _ X.stack _ _ ⟨Value.ref (s.heap.objs.size + 1) :: us, ks.zip ws⟩ _ _ _ _ (hr.make C us (ks.zip ws)) (I2.env0.make C us (ks.zip ws)) to (hb.rel rx rz) hq) fun res s' hq' => ?_))
  rcases res with er | fl
  · exact hx σ pins _ _ er s' I2 hq'
  · cases fl with
    | ret u =>
      obtain ⟨v, H', I3, rv, ev, q3⟩ := I2.after hq'
      subst ev
      exact ⟨rv, V.ref (s.heap.objs.size + 1), H', I3, rfl, q3⟩
    | _ => exact False.elim hq'
theorem pe_callV (F : FnOk X.prog X.w X.K X.mg X.base CX k f fd ps sp) (hr : Room k X.A) (hg : Gl X x) (hm : X.mg x = some (.ref f)) (hk : PySem.W.keepIn X.K (.ref f) = true) (hb : KBn X.K fd ps n ks g gV) (hx : PassesS CX X E)
    (ha : PA X (e :: es) t) (hkw : PK X kws tk) (hall : (backToKw pos (keywordEach kws X.env)).all (·.1.isSome) = true := by rfl) (hks : (backToKw pos (keywordEach kws X.env)).filterMap (·.1) = ks := by rfl)
    (hdb : (x == ("__debug__" : Str)) = false := by decide) (he : starEach (e :: es) X.env = (false, eval e X.env) :: starEach es X.env := by rfl)
    (hpl : ((backTo pos (starEach (e :: es) X.env)).any (·.1) || (backToKw pos (keywordEach kws X.env)).any (·.1.isNone)) = false := by rfl) : PE X (.Call (.Name x p) (e :: es) kws pos) (tCallV n ks.length sp gV E t tk) :=
  ⟨fun pins s σ H Q I h => wpAny_Call_Name_kw (ld_glob I hg hm (PySem.W.callWith_KW (h₀ := X.base) I.ok.mod.kin hk hall (thn (ha.run pos pins s σ H _ I h) fun us s1 ⟨vs, H1, I1, r, q⟩ =>
    thn (hkw.run pos pins s1 σ H1 _ I1 q) fun ws s2 ⟨zs, H2, I2, rz, l1, l2, q2⟩ => ⟨I2.kIn, by rw [hks]; exact run_V F hr hb hx I2 r rz l1 l2 q2⟩) hpl he) hdb)⟩
theorem pe_callV0 (F : FnOk X.prog X.w X.K X.mg X.base CX k f fd ps sp) (hr : Room k X.A) (hg : Gl X x) (hm : X.mg x = some (.ref f)) (hk : PySem.W.keepIn X.K (.ref f) = true) (hb : KBn X.K fd ps 0 ks g gV) (hx : PassesS CX X E)
    (hkw : PK X kws tk) (hall : (backToKw pos (keywordEach kws X.env)).all (·.1.isSome) = true := by rfl) (hks : (backToKw pos (keywordEach kws X.env)).filterMap (·.1) = ks := by rfl)
    (hdb : (x == ("__debug__" : Str)) = false := by decide)
    (hpl : ((backTo pos (starEach [] X.env)).any (·.1) || (backToKw pos (keywordEach kws X.env)).any (·.1.isNone)) = false := by rfl) : PE X (.Call (.Name x p) [] kws pos) (tCallV 0 ks.length sp gV E tNil tk) :=
  ⟨fun pins s σ H Q I h => wpAny_Call_Name_kw (ld_glob I hg hm (PySem.W.callWith_KW0 (h₀ := X.base) I.ok.mod.kin hk hall
    (thn (hkw.run pos pins s σ H _ I h) fun ws s2 ⟨zs, H2, I2, rz, l1, l2, q2⟩ => ⟨I2.kIn, by rw [hks]; exact run_V (us := []) (vs := []) F hr hb hx I2 .nil rz rfl l2 q2⟩) hpl) hdb)⟩
theorem pe_makeV (M : Mk X.K C f) (F : FnOk X.prog X.w X.K X.mg X.base CX k f fd ps sp) (hr : Room (k + 1) X.A) (hg : Gl X x) (hm : X.mg x = some (.ref C)) (hb : KBn X.K fd ps (n + 1) ks g gV) (hx : PassesS CX X E)
    (ha : PA X (e :: es) t) (hkw : PK X kws tk) (hall : (backToKw pos (keywordEach kws X.env)).all (·.1.isSome) = true := by rfl) (hks : (backToKw pos (keywordEach kws X.env)).filterMap (·.1) = ks := by rfl)
    (hdb : (x == ("__debug__" : Str)) = false := by decide) (he : starEach (e :: es) X.env = (false, eval e X.env) :: starEach es X.env := by rfl)
    (hpl : ((backTo pos (starEach (e :: es) X.env)).any (·.1) || (backToKw pos (keywordEach kws X.env)).any (·.1.isNone)) = false := by rfl) : PE X (.Call (.Name x p) (e :: es) kws pos) (tMakeV C n ks.length sp gV E t tk) :=
  ⟨fun pins s σ H Q I h => wpAny_Call_Name_kw (ld_glob I hg hm (PySem.W.callWith_KW (h₀ := X.base) I.ok.mod.kin M.kp hall (thn (ha.run pos pins s σ H _ I h) fun us s1 ⟨vs, H1, I1, r, q⟩ =>
    thn (hkw.run pos pins s1 σ H1 _ I1 q) fun ws s2 ⟨zs, H2, I2, rz, l1, l2, q2⟩ => ⟨I2.kIn, by rw [hks]; exact run_mkV M F hr hb hx I2 r rz l1 l2 q2⟩) hpl he) hdb)⟩
theorem pe_makeV0 (M : Mk X.K C f) (F : FnOk X.prog X.w X.K X.mg X.base CX k f fd ps sp) (hr : Room (k + 1) X.A) (hg : Gl X x) (hm : X.mg x = some (.ref C)) (hb : KBn X.K fd ps 1 ks g gV) (hx : PassesS CX X E)
    (hkw : PK X kws tk) (hall : (backToKw pos (keywordEach kws X.env)).all (·.1.isSome) = true := by rfl) (hks : (backToKw pos (keywordEach kws X.env)).filterMap (·.1) = ks := by rfl)
    (hdb : (x == ("__debug__" : Str)) = false := by decide)
    (hpl : ((backTo pos (starEach [] X.env)).any (·.1) || (backToKw pos (keywordEach kws X.env)).any (·.1.isNone)) = false := by rfl) : PE X (.Call (.Name x p) [] kws pos) (tMakeV C 0 ks.length sp gV E tNil tk) :=
  ⟨fun pins s σ H Q I h => wpAny_Call_Name_kw (ld_glob I hg hm (PySem.W.callWith_KW0 (h₀ := X.base) I.ok.mod.kin M.kp hall
    (thn (hkw.run pos pins s σ H _ I h) fun ws s2 ⟨zs, H2, I2, rz, l1, l2, q2⟩ => ⟨I2.kIn, by rw [hks]; exact run_mkV (us := []) (vs := []) M F hr hb hx I2 .nil rz rfl l2 q2⟩) hpl) hdb)⟩
/-- o.m(.., k = v, ..) -/
def tMethN (C : Addr) (m : Str) (n nk : Nat) (sp : Sp) (gV : List V → List V → List V) (E : XS) (ta : TE) (t tk : TA) : TE := fun σ H Q => ta σ H fun x H1 => ∃ a dx fs, x = .ref a ∧ H1 a = some (.ins C dx fs) ∧ fs.lookup m = none ∧
  t σ H1 fun vs H2 => tk σ H2 fun zs H3 => vs.length = n ∧ zs.length = nk ∧ sp (gV (.ref a :: vs) zs) H3 Q (fun cls d H => E cls d σ H)
theorem pe_methN {pl : Sem Bool} (he : PE X o ta) (c : Cls X.K C) (hm : Meth X.K C m f) (F : FnOk X.prog X.w X.K X.mg X.base CX k f fd ps sp) (hr : Room k X.A) (hb : KBn X.K fd ps (n + 1) ks g gV) (hx : PassesS CX X E) (ha : PA X (e :: es) t) (hkw : PK X kws tk)
    (hall : (backToKw pos (keywordEach kws X.env)).all (·.1.isSome) = true := by rfl) (hks : (backToKw pos (keywordEach kws X.env)).filterMap (·.1) = ks := by rfl)
    (hst : starEach (e :: es) X.env = (false, eval e X.env) :: starEach es X.env := by rfl)
    (hpl : ((backTo pos (starEach (e :: es) X.env)).any (·.1) || (backToKw pos (keywordEach kws X.env)).any (·.1.isNone)) = false := by rfl)
    (ht : eval (.Call (.Attribute o m apos) (e :: es) kws pos) X.env = (do
      let ov ← eval o X.env
      standAt apos.atName
      let (f, first) ← holding [ov] (getMethod ov m pl)
      callWith pos f first (backTo pos (starEach (e :: es) X.env)) (backToKw pos (keywordEach kws X.env))) := by rfl) :
    PE X (.Call (.Attribute o m apos) (e :: es) kws pos) (tMethN C m n ks.length sp gV E ta t tk) := by
  refine ⟨fun pins s σ H Q I h => ?_⟩
  refine PySem.W.methodCall_KW (pl := pl) (thn (he.run pins s σ H _ I h) fun u s1 ⟨x, H1, I1, rx, a, dx, fs, ex, ea, l, q⟩ => ?_) ht
  subst ex
  obtain rfl : u = Value.ref a := rx
  refine getmeth_ok I1 ea c hm l ?_
  refine PySem.W.callWith_KW (first := [.ref a]) (h₀ := X.base) I.ok.mod.kin hm.kp hall (thn (ha.run pos pins s1 σ H1 _ I1 q) fun us s2 ⟨vs, H2, I2, r, q2⟩ => ?_) hpl hst
  refine thn (hkw.run pos pins s2 σ H2 _ I2 q2) fun ws s3 ⟨zs, H3, I3, rz, l1, l2, q3⟩ => ⟨I3.kIn, ?_⟩
  rw [hks]
  exact run_V (us := .ref a :: us) (vs := .ref a :: vs) F hr hb hx I3 (.cons rfl r) rz (congrArg Nat.succ l1) l2 q3
theorem pe_methN0 {pl : Sem Bool} (he : PE X o ta) (c : Cls X.K C) (hm : Meth X.K C m f) (F : FnOk X.prog X.w X.K X.mg X.base CX k f fd ps sp) (hr : Room k X.A) (hb : KBn X.K fd ps 1 ks g gV) (hx : PassesS CX X E) (hkw : PK X kws tk)
    (hall : (backToKw pos (keywordEach kws X.env)).all (·.1.isSome) = true := by rfl) (hks : (backToKw pos (keywordEach kws X.env)).filterMap (·.1) = ks := by rfl)
    (hpl : ((backTo pos (starEach [] X.env)).any (·.1) || (backToKw pos (keywordEach kws X.env)).any (·.1.isNone)) = false := by rfl)
    (ht : eval (.Call (.Attribute o m apos) [] kws pos) X.env = (do
      let ov ← eval o X.env
      standAt apos.atName
      let (f, first) ← holding [ov] (getMethod ov m pl)
      callWith pos f first (backTo pos (starEach [] X.env)) (backToKw pos (keywordEach kws X.env))) := by rfl) :
    PE X (.Call (.Attribute o m apos) [] kws pos) (tMethN C m 0 ks.length sp gV E ta tNil tk) := by
  refine ⟨fun pins s σ H Q I h => ?_⟩
  refine PySem.W.methodCall_KW (pl := pl) (thn (he.run pins s σ H _ I h) fun u s1 ⟨x, H1, I1, rx, a, dx, fs, ex, ea, l, q⟩ => ?_) ht
  subst ex
  obtain rfl : u = Value.ref a := rx
  refine getmeth_ok I1 ea c hm l ?_
  refine PySem.W.callWith_KW0 (first := [.ref a]) (h₀ := X.base) I.ok.mod.kin hm.kp hall ?_ hpl
  refine thn (hkw.run pos pins s1 σ H1 _ I1 q) fun ws s3 ⟨zs, H3, I3, rz, l1, l2, q3⟩ => ⟨I3.kIn, ?_⟩
  rw [hks]
  exact run_V (us := [.ref a]) (vs := [.ref a]) F hr hb hx I3 (.cons rfl .nil) rz rfl l2 q3
end

/-! ### keywords on data -/
def PKD (X : Cx) (Z : Zx) (E : XS) (kws : List Keyword) (d : DA) : Prop := PK X kws (tAr X.K Z E d)
theorem pk_weak {X : Cx} {kws : List Keyword} {t t' : TA} (h : PK X kws t) (k : ∀ σ H Q, t' σ H Q → t σ H Q) : PK X kws t' := ⟨fun pos pins s σ H Q I q => h.run pos pins s σ H Q I (k σ H Q q)⟩
section
variable {X : Cx} {Z : Zx} {E : XS} {e o : Expr} {es : List Expr} {kws : List Keyword} {da db dd : DE} {ds dk : DA} {pos apos p kpos : Pos} {CX' : CXT} {k n : Nat} {f C : Addr} {fd : FuncData} {ps ks : List Str} {dvs : List V} {dws : List W} {c : Ct} {x m : Str} {nm : Option Str} {pl : List Src} {g : List Value → List Value → List Value}
theorem pkd_nil : PKD X Z E [] aNil := pk_weak pk_nil fun σ H Q q => by
  obtain ⟨H0, F, G, pv, st, k, kx, wd, ss, hd, hk, hx⟩ := q
  exact hk _ _ _ _ _ _ (Ex.refl _) wd ss .nil hd
theorem pkd_cons (ha : PD X Z E e da) (hr : PKD X Z E kws dk) : PKD X Z E (⟨nm, e, kpos⟩ :: kws) (aCons da dk) := by
  refine pk_weak (pk_cons ha hr) fun σ H Q q => ?_
  obtain ⟨H0, F, G, pv, st, k, kx, wd, ss, hd, hk, hx⟩ := q
  refine tE_seq wd ss hx hd fun H1 G1 H1' st1 v1 r1 e1 wd1 ss1 rr1 k1 => ?_
  exact tA_seq wd1 ss1 (hx.up e1) k1 fun H2 G2 H2' st2 vs rs e2 wd2 ss2 rr2 k2 => hk _ _ _ _ _ _ (e1.trans e2) wd2 ss2 (.cons (rr1.mono e2) rr2) k2
end

/-! ### the calls on data -/
def goCall (c : Ct) (b : Bool) (fin : List R) (st : S) (k : T → S → Prop) (x : KX) : Prop := b = true ∧ match argT st fin with
  | some ts => c ts (fun t ts' => k t (setA st fin ts')) (fun e ts' => x e (setA st fin ts'))
  | none => False
def okN (n m : Nat) (rs zs fin : List R) : Bool := (rs.length == n) && ((zs.length == m) && onePk fin)
/-- f(.., k = v, ..) -/
def dCallU (c : Ct) (pl : List Src) (dws : List W) (n m : Nat) (a ak : DA) : DW := fun st k x => a st (fun rs st1 => ak st1 (fun zs st2 =>
  goCall c (okN n m rs zs (pick pl rs (dws.map .w) zs)) (pick pl rs (dws.map .w) zs) st2 k x) x) x
/-- o.m(.., k = v, ..) -/
def dMethU (c : Ct) (cid : Nat) (pl : List Src) (dws : List W) (n m : Nat) (d : DE) (a ak : DA) : DW := fun st k x => d st (fun r st0 => isIns cid st0 r ∧ a st0 (fun rs st1 => ak st1 (fun zs st2 =>
  goCall c (okN n m rs zs (pick (shp pl) (r :: rs) (dws.map .w) zs)) (pick (shp pl) (r :: rs) (dws.map .w) zs) st2 k x) x) x) x
def okM (n m : Nat) (rs zs fin : List R) : Bool := (rs.length == n) && ((zs.length == m) && noPk fin)
/-- C(.., k = v, ..) -/
def dMakeU (c : Ct) (cid : Nat) (pl : List Src) (dws : List W) (n m : Nat) (a ak : DA) : DW := fun st k x => a st (fun rs st1 => ak st1 (fun zs st2 =>
  okM n m rs zs (pick pl rs (dws.map .w) zs) = true ∧ match argT st2 (pick pl rs (dws.map .w) zs) with
  | some ts => c (.ins cid [] :: ts) (fun t ts' => match t, ts' with
    | .fz .non, me :: _ => k me st2
    | _, _ => False) (fun e _ => x e st2)
  | none => False) x) x
theorem okN_of {n m : Nat} {rs zs fin : List R} (h : okN n m rs zs fin = true) : rs.length = n ∧ zs.length = m ∧ onePk fin = true := by
  obtain ⟨h1, h2⟩ := Bool.and_eq_true_iff.mp h
  obtain ⟨h2, h3⟩ := Bool.and_eq_true_iff.mp h2
  exact ⟨eq_of_beq h1, eq_of_beq h2, h3⟩
theorem okM_of {n m : Nat} {rs zs fin : List R} (h : okM n m rs zs fin = true) : rs.length = n ∧ zs.length = m ∧ noPk fin = true := by
  obtain ⟨h1, h2⟩ := Bool.and_eq_true_iff.mp h
  obtain ⟨h2, h3⟩ := Bool.and_eq_true_iff.mp h2
  exact ⟨eq_of_beq h1, eq_of_beq h2, h3⟩
section
variable {X : Cx} {Z : Zx} {E : XS} {e o : Expr} {es : List Expr} {kws : List Keyword} {da db dd : DE} {ds dk : DA} {pos apos p kpos : Pos} {CX' : CXT} {k n : Nat} {f C : Addr} {fd : FuncData} {ps ks : List Str} {dvs : List V} {dws : List W} {c : Ct} {x m : Str} {nm : Option Str} {pl : List Src} {g : List Value → List Value → List Value}
theorem go_ok {K : PySem.W.Frag} {σ : L2.St} {H0 H F : Hp} {G : Fp} {pv : List V} {st : S} {vs : List V} {fin : List R} {b : Bool} {k : T → S → Prop} {kx : KX} {Q : VK} (wd : Wd H0 F G H) (ss : Sts K Z H0 pv σ st G) (rr : RepRs K Z H0 σ vs fin)
    (hb : onePk fin = true) (h : goCall c b fin st k kx) (hk : AccW K Z F pv σ H0 k Q) (hx : AccXe K Z E F pv σ H0 kx) : spOf K Z c vs H Q (fun cls d H => E cls d σ H) := by
  obtain ⟨_, h⟩ := h
  cases q : argT st fin with
  | none => rw [q] at h; exact h.elim
  | some ts =>
    rw [q] at h
    have := call_ok (dvs := []) (dws := []) (k := k) (kx := kx) (c := c) wd ss rr (fun _ => .nil) hb q (by rw [List.map_nil, List.append_nil]; exact h) hk hx
    rwa [List.append_nil] at this
theorem callU_step {σ : L2.St} {H : Hp} {Q : VK} {nk : Nat} (hdw : ∀ H0, Reps X.K Z H0 dvs dws) (q : tW X.K Z E (dCallU c pl dws n nk ds dk) σ H Q) :
    tCallV n nk (spOf X.K Z c) (fun vs zs => pick pl vs dvs zs) E (tAr X.K Z E ds) (tAr X.K Z E dk) σ H Q := by
  obtain ⟨H0, F, G, pv, st, k, kx, wd, ss, hd, hk, hx⟩ := q
  refine tA_seq wd ss hx hd fun H1 G1 H1' st1 vs rs e1 wd1 ss1 rr k1 => ?_
  refine tA_seq wd1 ss1 (hx.up e1) k1 fun H2 G2 H2' st2 zs qs e2 wd2 ss2 rz k2 => ?_
  obtain ⟨l1, l2, l3⟩ := okN_of k2.1
  refine ⟨rr.length.trans l1, rz.length.trans l2, ?_⟩
  exact go_ok wd2 ss2 (pick_rr (rr.mono e2) (.ofW (hdw _)) rz pl) l3 k2 (fun _ _ _ _ _ _ _ e' => hk _ _ _ _ _ _ _ ((e1.trans e2).trans e')) (hx.up (e1.trans e2))
theorem pv_callU {nk : Nat} (F : FnOk X.prog X.w X.K X.mg X.base CX' k f fd ps (spOf X.K Z c)) (hr : Room k X.A) (hg : Gl X x) (hm : X.mg x = some (.ref f)) (hk : PySem.W.keepIn X.K (.ref f) = true) (hb : KBn X.K fd ps n ks g (fun vs zs => pick pl vs dvs zs)) (hdw : ∀ H0, Reps X.K Z H0 dvs dws) (hx : PassesS CX' X E)
    (ha : PAD X Z E (e :: es) ds) (hkw : PKD X Z E kws dk) (hall : (backToKw pos (keywordEach kws X.env)).all (·.1.isSome) = true := by rfl) (hks : (backToKw pos (keywordEach kws X.env)).filterMap (·.1) = ks := by rfl)
    (hdb : (x == ("__debug__" : Str)) = false := by decide) (he : starEach (e :: es) X.env = (false, eval e X.env) :: starEach es X.env := by rfl)
    (hpl : ((backTo pos (starEach (e :: es) X.env)).any (·.1) || (backToKw pos (keywordEach kws X.env)).any (·.1.isNone)) = false := by rfl) (hnk : ks.length = nk := by rfl) :
    PVD X Z E (.Call (.Name x p) (e :: es) kws pos) (dCallU c pl dws n nk ds dk) := by
  subst hnk
  exact pe_weak (pe_callV F hr hg hm hk hb hx ha hkw hall hks hdb he hpl) fun _ _ _ q => callU_step hdw q
theorem pv_callU0 {nk : Nat} (F : FnOk X.prog X.w X.K X.mg X.base CX' k f fd ps (spOf X.K Z c)) (hr : Room k X.A) (hg : Gl X x) (hm : X.mg x = some (.ref f)) (hk : PySem.W.keepIn X.K (.ref f) = true) (hb : KBn X.K fd ps 0 ks g (fun vs zs => pick pl vs dvs zs)) (hdw : ∀ H0, Reps X.K Z H0 dvs dws) (hx : PassesS CX' X E)
    (hkw : PKD X Z E kws dk) (hall : (backToKw pos (keywordEach kws X.env)).all (·.1.isSome) = true := by rfl) (hks : (backToKw pos (keywordEach kws X.env)).filterMap (·.1) = ks := by rfl)
    (hdb : (x == ("__debug__" : Str)) = false := by decide)
    (hpl : ((backTo pos (starEach [] X.env)).any (·.1) || (backToKw pos (keywordEach kws X.env)).any (·.1.isNone)) = false := by rfl) (hnk : ks.length = nk := by rfl) :
    PVD X Z E (.Call (.Name x p) [] kws pos) (dCallU c pl dws 0 nk aNil dk) := by
  subst hnk
  exact pe_weak (pe_callV0 F hr hg hm hk hb hx hkw hall hks hdb hpl) fun σ H Q q => by
    obtain ⟨H0, F, G, pv, st, k, kx, wd, ss, hd, hk, hx⟩ := q
    refine tA_seq wd ss hx hd fun H2 G2 H2' st2 zs qs e2 wd2 ss2 rz k2 => ?_
    obtain ⟨l1, l2, l3⟩ := okN_of k2.1
    refine ⟨rfl, rz.length.trans l2, ?_⟩
    exact go_ok wd2 ss2 (pick_rr .nil (.ofW (hdw _)) rz pl) l3 k2 (fun _ _ _ _ _ _ _ e' => hk _ _ _ _ _ _ _ (e2.trans e')) (hx.up e2)
theorem methU_step {cid nk : Nat} {σ : L2.St} {H : Hp} {Q : VK} (hnf : m ∉ fldN cid) (hdw : ∀ H0, Reps X.K Z H0 dvs dws) (q : tW X.K Z E (dMethU c cid pl dws n nk dd ds dk) σ H Q) :
    tMethN (Z.cls cid) m n nk (spOf X.K Z c) (fun vs zs => pick (shp pl) vs dvs zs) E (tE X.K Z E dd) (tAr X.K Z E ds) (tAr X.K Z E dk) σ H Q := by
  obtain ⟨H0, F, G, pv, st, k, kx, wd, ss, hd, hk, hx⟩ := q
  refine tE_seq wd ss hx hd fun H1 G1 H1' st1 v r e1 wd1 ss1 rr k1 => ?_
  obtain ⟨hi, k1⟩ := k1
  obtain ⟨a, dx, fs, n', ev, ha, hn⟩ := isIns_at wd1 ss1 rr hi
  subst ev
  refine ⟨a, dx, fs, rfl, ha, no_field hn hnf, ?_⟩
  refine tA_seq wd1 ss1 (hx.up e1) k1 fun H2 G2 H2' st2 vs rs e2 wd2 ss2 rrs k2 => ?_
  refine tA_seq wd2 ss2 (hx.up (e1.trans e2)) k2 fun H3 G3 H3' st3 zs qs e3 wd3 ss3 rz k3 => ?_
  obtain ⟨l1, l2, l3⟩ := okN_of k3.1
  refine ⟨rrs.length.trans l1, rz.length.trans l2, ?_⟩
  exact go_ok wd3 ss3 (pick_rr (.cons (rr.mono (e2.trans e3)) (rrs.mono e3)) (.ofW (hdw _)) rz (shp pl)) l3 k3 (fun _ _ _ _ _ _ _ e' => hk _ _ _ _ _ _ _ ((e1.trans (e2.trans e3)).trans e')) (hx.up (e1.trans (e2.trans e3)))
theorem pv_methU {cid : Nat} {nk : Nat} {pb : Sem Bool} (he : PD X Z E o dd) (hC : Z.cls cid = C) (cl : Cls X.K C) (hm : Meth X.K C m f) (hnf : m ∉ fldN cid) (F : FnOk X.prog X.w X.K X.mg X.base CX' k f fd ps (spOf X.K Z c)) (hr : Room k X.A) (hb : KBn X.K fd ps (n + 1) ks g (fun vs zs => pick (shp pl) vs dvs zs)) (hdw : ∀ H0, Reps X.K Z H0 dvs dws) (hx : PassesS CX' X E)
    (ha : PAD X Z E (e :: es) ds) (hkw : PKD X Z E kws dk) (hall : (backToKw pos (keywordEach kws X.env)).all (·.1.isSome) = true := by rfl) (hks : (backToKw pos (keywordEach kws X.env)).filterMap (·.1) = ks := by rfl)
    (hst : starEach (e :: es) X.env = (false, eval e X.env) :: starEach es X.env := by rfl)
    (hpl : ((backTo pos (starEach (e :: es) X.env)).any (·.1) || (backToKw pos (keywordEach kws X.env)).any (·.1.isNone)) = false := by rfl)
    (ht : eval (.Call (.Attribute o m apos) (e :: es) kws pos) X.env = (do
      let ov ← eval o X.env
      standAt apos.atName
      let (f, first) ← holding [ov] (getMethod ov m pb)
      callWith pos f first (backTo pos (starEach (e :: es) X.env)) (backToKw pos (keywordEach kws X.env))) := by rfl) (hnk : ks.length = nk := by rfl) :
    PVD X Z E (.Call (.Attribute o m apos) (e :: es) kws pos) (dMethU c cid pl dws n nk dd ds dk) := by
  subst hnk
  subst hC
  exact pe_weak (pe_methN (pl := pb) he cl hm F hr hb hx ha hkw hall hks hst hpl ht) fun _ _ _ q => methU_step hnf hdw q
theorem pv_methU0 {cid : Nat} {nk : Nat} {pb : Sem Bool} (he : PD X Z E o dd) (hC : Z.cls cid = C) (cl : Cls X.K C) (hm : Meth X.K C m f) (hnf : m ∉ fldN cid) (F : FnOk X.prog X.w X.K X.mg X.base CX' k f fd ps (spOf X.K Z c)) (hr : Room k X.A) (hb : KBn X.K fd ps 1 ks g (fun vs zs => pick (shp pl) vs dvs zs)) (hdw : ∀ H0, Reps X.K Z H0 dvs dws) (hx : PassesS CX' X E)
    (hkw : PKD X Z E kws dk) (hall : (backToKw pos (keywordEach kws X.env)).all (·.1.isSome) = true := by rfl) (hks : (backToKw pos (keywordEach kws X.env)).filterMap (·.1) = ks := by rfl)
    (hpl : ((backTo pos (starEach [] X.env)).any (·.1) || (backToKw pos (keywordEach kws X.env)).any (·.1.isNone)) = false := by rfl)
    (ht : eval (.Call (.Attribute o m apos) [] kws pos) X.env = (do
      let ov ← eval o X.env
      standAt apos.atName
      let (f, first) ← holding [ov] (getMethod ov m pb)
      callWith pos f first (backTo pos (starEach [] X.env)) (backToKw pos (keywordEach kws X.env))) := by rfl) (hnk : ks.length = nk := by rfl) :
    PVD X Z E (.Call (.Attribute o m apos) [] kws pos) (dMethU c cid pl dws 0 nk dd aNil dk) := by
  subst hnk
  subst hC
  refine pe_weak (pe_methN0 (pl := pb) he cl hm F hr hb hx hkw hall hks hpl ht) fun σ H Q q => ?_
  obtain ⟨H0, F, G, pv, st, k, kx, wd, ss, hd, hk, hx⟩ := q
  refine tE_seq wd ss hx hd fun H1 G1 H1' st1 v r e1 wd1 ss1 rr k1 => ?_
  obtain ⟨hi, k1⟩ := k1
  obtain ⟨a, dx, fs, n', ev, ha, hn⟩ := isIns_at wd1 ss1 rr hi
  subst ev
  refine ⟨a, dx, fs, rfl, ha, no_field hn hnf, ?_⟩
  refine tA_seq wd1 ss1 (hx.up e1) k1 fun H3 G3 H3' st3 zs qs e3 wd3 ss3 rz k3 => ?_
  obtain ⟨l1, l2, l3⟩ := okN_of k3.1
  refine ⟨rfl, rz.length.trans l2, ?_⟩
  exact go_ok wd3 ss3 (pick_rr (.cons (rr.mono e3) .nil) (.ofW (hdw _)) rz (shp pl)) l3 k3 (fun _ _ _ _ _ _ _ e' => hk _ _ _ _ _ _ _ ((e1.trans e3).trans e')) (hx.up (e1.trans e3))
theorem makeU_go {cid : Nat} (hz : Z.has cid = true) {K : PySem.W.Frag} {σ : L2.St} {H0 H F : Hp} {G : Fp} {pv : List V} {st : S} {vs dvs zs : List V} {fin : List R} {k : T → S → Prop} {kx : KX} {Q : VK} (wd : Wd H0 F G H) (ss : Sts K Z H0 pv σ st G) (rr : RepRs K Z H0 σ (pick pl vs dvs zs) fin)
    (hb : noPk fin = true) (h : match argT st fin with
      | some ts => c (.ins cid [] :: ts) (fun t ts' => match t, ts' with
        | .fz .non, me :: _ => k me st
        | _, _ => False) (fun e _ => kx e st)
      | none => False) (hk : AccW K Z F pv σ H0 k Q) (hx : AccXe K Z E F pv σ H0 kx) :
    ∀ x dx, H x = none → H dx = none → dx ≠ x → spOf K Z c (pick (shp pl) (.ref x :: vs) dvs zs) (upd (upd H dx (.own x)) x (.ins (Z.cls cid) dx [])) (fun v H2 => v = .non ∧ Q (.ref x) H2) (fun cls d H => E cls d σ H) := by
  cases q : argT st fin with
  | none => rw [q] at h; exact h.elim
  | some ts =>
    rw [q] at h
    intro x dx h1 h2 h3
    have := make_core (dvs := []) (dws := []) (k := k) (kx := kx) (c := c) hz wd ss rr (fun _ => .nil) hb q (by rw [List.map_nil, List.append_nil]; exact h) hk hx x dx h1 h2 h3
    rw [List.append_nil] at this
    rw [pick_sh]
    exact this
theorem pv_makeU {cid : Nat} {nk : Nat} (hz : Z.has cid = true) (M : Mk X.K C f) (hC : Z.cls cid = C) (F : FnOk X.prog X.w X.K X.mg X.base CX' k f fd ps (spOf X.K Z c)) (hr : Room (k + 1) X.A) (hg : Gl X x) (hm : X.mg x = some (.ref C)) (hb : KBn X.K fd ps (n + 1) ks g (fun vs zs => pick (shp pl) vs dvs zs)) (hdw : ∀ H0, Reps X.K Z H0 dvs dws) (hx : PassesS CX' X E)
    (ha : PAD X Z E (e :: es) ds) (hkw : PKD X Z E kws dk) (hall : (backToKw pos (keywordEach kws X.env)).all (·.1.isSome) = true := by rfl) (hks : (backToKw pos (keywordEach kws X.env)).filterMap (·.1) = ks := by rfl)
    (hdb : (x == ("__debug__" : Str)) = false := by decide) (he : starEach (e :: es) X.env = (false, eval e X.env) :: starEach es X.env := by rfl)
    (hpl : ((backTo pos (starEach (e :: es) X.env)).any (·.1) || (backToKw pos (keywordEach kws X.env)).any (·.1.isNone)) = false := by rfl) (hnk : ks.length = nk := by rfl) :
    PVD X Z E (.Call (.Name x p) (e :: es) kws pos) (dMakeU c cid pl dws n nk ds dk) := by
  subst hnk
  subst hC
  refine pe_weak (pe_makeV M F hr hg hm hb hx ha hkw hall hks hdb he hpl) fun σ H Q q => ?_
  obtain ⟨H0, F, G, pv, st, k, kx, wd, ss, hd, hk, hx⟩ := q
  refine tA_seq wd ss hx hd fun H1 G1 H1' st1 vs rs e1 wd1 ss1 rr k1 => ?_
  refine tA_seq wd1 ss1 (hx.up e1) k1 fun H2 G2 H2' st2 zs qs e2 wd2 ss2 rz k2 => ?_
  obtain ⟨l1, l2, l3⟩ := okM_of k2.1
  refine ⟨rr.length.trans l1, rz.length.trans l2, ?_⟩
  exact makeU_go hz wd2 ss2 (pick_rr (rr.mono e2) (.ofW (hdw _)) rz pl) l3 k2.2 (fun _ _ _ _ _ _ _ e' => hk _ _ _ _ _ _ _ ((e1.trans e2).trans e')) (hx.up (e1.trans e2))
theorem pv_makeU0 {cid : Nat} {nk : Nat} (hz : Z.has cid = true) (M : Mk X.K C f) (hC : Z.cls cid = C) (F : FnOk X.prog X.w X.K X.mg X.base CX' k f fd ps (spOf X.K Z c)) (hr : Room (k + 1) X.A) (hg : Gl X x) (hm : X.mg x = some (.ref C)) (hb : KBn X.K fd ps 1 ks g (fun vs zs => pick (shp pl) vs dvs zs)) (hdw : ∀ H0, Reps X.K Z H0 dvs dws) (hx : PassesS CX' X E)
    (hkw : PKD X Z E kws dk) (hall : (backToKw pos (keywordEach kws X.env)).all (·.1.isSome) = true := by rfl) (hks : (backToKw pos (keywordEach kws X.env)).filterMap (·.1) = ks := by rfl)
    (hdb : (x == ("__debug__" : Str)) = false := by decide)
    (hpl : ((backTo pos (starEach [] X.env)).any (·.1) || (backToKw pos (keywordEach kws X.env)).any (·.1.isNone)) = false := by rfl) (hnk : ks.length = nk := by rfl) :
    PVD X Z E (.Call (.Name x p) [] kws pos) (dMakeU c cid pl dws 0 nk aNil dk) := by
  subst hnk
  subst hC
  refine pe_weak (pe_makeV0 M F hr hg hm hb hx hkw hall hks hdb hpl) fun σ H Q q => ?_
  obtain ⟨H0, F, G, pv, st, k, kx, wd, ss, hd, hk, hx⟩ := q
  refine tA_seq wd ss hx hd fun H2 G2 H2' st2 zs qs e2 wd2 ss2 rz k2 => ?_
  obtain ⟨l1, l2, l3⟩ := okM_of k2.1
  refine ⟨rfl, rz.length.trans l2, ?_⟩
  exact makeU_go hz wd2 ss2 (pick_rr .nil (.ofW (hdw _)) rz pl) l3 k2.2 (fun _ _ _ _ _ _ _ e' => hk _ _ _ _ _ _ _ (e2.trans e')) (hx.up e2)
end

/-! ### fields -/
/-- e.f of an instance of the class cid, its j-th field -/
def dFld (cid j : Nat) (d : DE) : DE := fun st k x => d st (fun r st1 => match r with
  | .w (.ins c ws) => c = cid ∧ ∃ w, ws[j]? = some w ∧ k (.w w) st1
  | .w _ => False
  | .pk i => match getT st1 i with
    | some (.ins c ts) => c = cid ∧ ∃ w, ts[j]? = some (.fz w) ∧ k (.w w) st1
    | _ => False) x
def putT (ts : List T) (j : Nat) (t : T) : List T := if j < ts.length then ts.set j t else ts ++ [t]
/-- x.f = value, x an own name -/
def dFSto (i cid j : Nat) (d : DW) : DS := fun D st => d st (fun t st1 => match getT st1 i with
  | some (.ins c ts) => c = cid ∧ j ≤ ts.length ∧ D.nx (setT st1 i (.ins c (putT ts j t)))
  | _ => False) D.ex
theorem lookup_at {f : Str} : ∀ {fs : List (Str × V)} {j : Nat} {v : V}, (fs.map (·.1)).Nodup → (fs.map (·.1))[j]? = some f → (fs.map (·.2))[j]? = some v → fs.lookup f = some v
  | [], j, v, _, h, _ => by simp at h
  | (n, u) :: fs, 0, v, _, h1, h2 => by
    simp at h1 h2; subst h1; subst h2
    simp [List.lookup_cons]
  | (n, u) :: fs, j + 1, v, nd, h1, h2 => by
    rw [List.map_cons] at nd h1 h2
    obtain ⟨n1, n2⟩ := List.nodup_cons.mp nd
    have h1' : (fs.map (·.1))[j]? = some f := by simpa using h1
    have ne : (f == n) = false := by
      refine beq_false_of_ne fun e => n1 ?_
      rw [← e]
      exact List.mem_of_getElem? h1'
    rw [List.lookup_cons, ne]
    exact lookup_at n2 h1' (by simpa using h2)
theorem fld_nd : ∀ c : Nat, (fldN c).Nodup := by
  intro c
  unfold fldN
  split <;> decide
theorem fld_short : ∀ c : Nat, (fldN c).length ≤ 3 := by
  intro c
  unfold fldN
  split <;> decide
theorem RepTs.get {K : PySem.W.Frag} {Z : Zx} {H : Hp} : ∀ {vs ts G} {i : Nat} {t}, RepTs K Z H vs ts G → ts[i]? = some t → ∃ v Gt, vs[i]? = some v ∧ RepT K Z H v t Gt
  | _, _, _, i, _, .nil, e => by simp at e
  | _, _, _, 0, _, .cons h r, e => by simp at e; subst e; exact ⟨_, _, rfl, h⟩
  | _, _, _, i + 1, w, .cons h r, e => by
    obtain ⟨v, Gt, h1, h2⟩ := RepTs.get (i := i) (t := w) r (by simpa using e)
    exact ⟨v, Gt, by simpa using h1, h2⟩
section
variable {X : Cx} {Z : Zx} {E : XS} {e o : Expr} {dd : DE} {dw : DW} {pos pos' apos p : Pos} {C : Addr} {f x : Str} {cid j : Nat}
theorem pd_fld (he : PD X Z E e dd) (hC : Z.cls cid = C) (cl : Cls X.K C) (hn : NoAttr X.K C f) (hj : (fldN cid)[j]? = some f := by rfl) (hb : attributeBase e f X.env (eval e X.env) = eval e X.env := by rfl) : PD X Z E (.Attribute e f pos) (dFld cid j dd) := by
  subst hC
  refine pe_weak (pe_fld he hb) fun σ H Q q => ?_
  obtain ⟨H0, F, G, pv, st, k, kx, wd, ss, hd, hk, hx⟩ := q
  refine tE_seq wd ss hx hd fun H1 G1 H1' st1 v r e1 wd1 ss1 rr k1 => ?_
  cases rr with
  | w rv =>
    cases rv with
    | @ins a c dx fs ws _ hi hnm hr =>
      obtain ⟨rfl, w, h1, k1⟩ := k1
      obtain ⟨v, h2, h3⟩ := hr.get h1
      exact ⟨a, _, dx, fs, v, rfl, wd1.ex _ _ hi, cl, hn, lookup_at (by rw [hnm]; exact fld_nd c) (by rw [hnm]; exact hj) h2, hk _ _ _ _ _ _ e1 wd1 ss1 (.w h3) k1⟩
    | _ => exact k1.elim
  | pk hv =>
    rename_i i
    replace k1 : (match getT st1 i with | some (.ins c ts) => c = cid ∧ ∃ w, ts[j]? = some (.fz w) ∧ k (.w w) st1 | _ => False) := k1
    cases q : getT st1 i with
    | none => rw [q] at k1; exact k1.elim
    | some t =>
      rw [q] at k1
      cases t with
      | ins c ts =>
        obtain ⟨rfl, w, h1, k1⟩ := k1
        obtain ⟨Gx, A, B, g1, g2, _⟩ := ss1.own q hv
        cases g1 with
        | @ins a _ dx fs _ Gf _ n r =>
          obtain ⟨v, Gt, h2, h3⟩ := r.get h1
          cases h3 with
          | fz h3 =>
            have hi : H1' a = some (.ins (Z.cls c) dx fs) := wd1.ow (a, _) (by rw [g2]; simp)
            have hjl : j < ts.length := by
              by_cases z : j < ts.length
              · exact z
              · rw [List.getElem?_eq_none (by omega)] at h1; cases h1
            refine ⟨a, _, dx, fs, v, rfl, hi, cl, hn, lookup_at (by rw [n]; exact (fld_nd c).sublist (List.take_sublist _ _)) (by rw [n, List.getElem?_take_of_lt hjl]; exact hj) h2, hk _ _ _ _ _ _ e1 wd1 ss1 (.w h3) k1⟩
      | _ => exact k1.elim
end
end Y
namespace QE
open PySem PySem.SeqAt
open AutoSeq1 (wpAny_loadPart')
open MeetsSeq MeetsSeq2 MeetsSeq3 SeqRoads2
open GQ (FinOf call_here eqBool_refG)
section
variable {prog : Program} {w : World} {A : Around} {R : Result → Shared → Prop}
/-- at each turn the two lists are read anew: N items each; the i-th two are equal or not, as e says -/
def ListJ (prog : Program) (w : World) (A : Around) (E : Value → Shared → Prop) (l b : Addr) (N : Nat) (e : Nat → Bool) (I : Shared → Prop) : Prop :=
  ∀ i s, I s → ∃ (items items2 : Array Value) (n n2 : Nat), s.heap.get? l = some { cls := .type "list", data := .seq items n } ∧ s.heap.get? b = some { cls := .type "list", data := .seq items2 n2 } ∧ items.size = N ∧ items2.size = N ∧
    ((∀ j, j < i → e j = true) → ∀ (h1 : i < items.size) (h2 : i < items2.size), wpAny (model prog w) A.in1 (eqBool items[i] items2[i]) (fun r s' => r = e i ∧ I s') E s)
theorem all_of {N : Nat} {e : Nat → Bool} (h : ∀ j, j < N → e j = true) : (List.range N).all e = true := List.all_eq_true.mpr fun j hj => h j (List.mem_range.mp hj)
theorem all_no {N i : Nat} {e : Nat → Bool} (hi : i < N) (h : e i = false) : (List.range N).all e = false := by
  cases q : (List.range N).all e with
  | false => rfl
  | true => have := List.all_eq_true.mp q i (List.mem_range.mpr hi); rw [h] at this; cases this

theorem eq_loopJ (l b : Addr) (N : Nat) (e : Nat → Bool) (I : Shared → Prop) (hl : ListJ prog w A (fun e s' => R (.error e) s') l b N e I)
    (fin : ∀ s, I s → R (.ok (.ret (.bool ((List.range N).all e)))) s) (k : Nat) :
    ∀ i : Nat, N - i = k → i ≤ N → (∀ j, j < i → e j = true) → ∀ s, I s →
      wpAny (model prog w) A.in1 (Builtin.«list.__eq__.loop» ⟨[.ref l, .ref b, rawInt i, rawInt 2], []⟩) (FinOf prog w A R) (fun e s' => R (.error e) s') s := by
  induction k with
  | zero =>
    intro i hk hi hp s h
    obtain ⟨items, items2, n, n2, hl1, hb1, hs1, hs2, _⟩ := hl i _ h
    have hi' : i = N := by omega
    have hR := fin s h
    rw [all_of (hi' ▸ hp)] at hR
    obtain ⟨hp, g, d, tk, os⟩ := s
    wp_walk using wpAny_loadPart' hl1, wpAny_loadPart' hb1
    have hi1 : items[((i : Nat) : Int).toNat]? = none := by simp; omega
    have hi2 : items2[((i : Nat) : Int).toNat]? = none := by simp; omega
    rw [hi1, hi2]
    wp_walk using wpAny_loadPart' hl1, wpAny_loadPart' hb1
    show R (.ok (.ret (.bool (items.size == items2.size)))) _
    rw [hs1, hs2]
    simpa using hR
  | succ k ih =>
    intro i hk hi hp s h
    obtain ⟨items, items2, n, n2, hl1, hb1, hs1, hs2, turn⟩ := hl i _ h
    have hlt : i < items.size := by omega
    have hlt2 : i < items2.size := by omega
    have ht := turn hp hlt hlt2
    obtain ⟨hp0, g, d, tk, os⟩ := s
    wp_walk using wpAny_loadPart' hl1, wpAny_loadPart' hb1
    have hi1 : items[((i : Nat) : Int).toNat]? = some items[i] := by simp [hlt]
    have hi2 : items2[((i : Nat) : Int).toNat]? = some items2[i] := by simp [hlt2]
    have hc : ((i : Int) + 1) = ((i + 1 : Nat) : Int) := by omega
    rw [hi1, hi2]
    refine wpAny_bind (wpAny_mono ht (fun r s2 h2 => ?_) fun _ _ x => x)
    obtain ⟨hr, h2⟩ := h2
    cases hb' : e i with
    | true =>
      rw [hb'] at hr
      subst hr
      have hrec := ih (i + 1) (by omega) (by omega) (fun j hj => by
        rcases Nat.lt_or_ge j i with q | q
        · exact hp j q
        · rw [show j = i by omega]; exact hb') s2 h2
      obtain ⟨hp2, g2, d2, tk2, os2⟩ := s2
      wp_walk
      rw [hc]
      exact ⟨plainId_quiet plain_eq_loop _, codeAny_builtin entry_eq_loop (by
        rw [Around.under_plainId plain_eq_loop _]
        exact hrec)⟩
    | false =>
      rw [hb'] at hr
      subst hr
      obtain ⟨items', items2', n', n2', hl2, hb2, hs1', hs2', _⟩ := hl i _ h2
      have hR := fin s2 h2
      rw [all_no (by omega) hb'] at hR
      obtain ⟨hp2, g2, d2, tk2, os2⟩ := s2
      wp_walk using wpAny_loadPart' hl2, wpAny_loadPart' hb2
      have k1 : i < items'.size := by omega
      have k2 : i < items2'.size := by omega
      have hi1' : items'[((i : Nat) : Int).toNat]? = some items'[i] := by simp [k1]
      have hi2' : items2'[((i : Nat) : Int).toNat]? = some items2'[i] := by simp [k2]
      rw [hi1', hi2']
      wp_walk
      simpa using hR
theorem list_eqJ (l b : Addr) (N : Nat) (e : Nat → Bool) (I : Shared → Prop) (hl : ListJ prog w A (fun e s' => R (.error e) s') l b N e I)
    (fin : ∀ s, I s → R (.ok (.ret (.bool ((List.range N).all e)))) s) {s : Shared} (h : I s) :
    wpAny (model prog w) A.in1 (Builtin.«list.__eq__» ⟨[.ref l, .ref b], []⟩) (FinOf prog w A R) (fun e s' => R (.error e) s') s := by
  obtain ⟨items, items2, n, n2, hl1, hb1, hs1, hs2, _⟩ := hl 0 _ h
  have hrec := eq_loopJ (A := A) (R := R) l b N e I hl fin _ 0 rfl (Nat.zero_le _) (fun j hj => absurd hj (Nat.not_lt_zero j)) s h
  obtain ⟨hp, g, d, tk, os⟩ := s
  have f3 := AutoSeq1.sub_list_list
  have hne : ¬ (items.size != items2.size) = true := by simp [hs1, hs2]
  wp_walk using wpAny_loadPart' hl1, wpAny_loadPart' hb1
  exact ⟨plainId_quiet plain_eq_loop _, codeAny_builtin entry_eq_loop (by
    rw [Around.under_plainId plain_eq_loop _]
    exact hrec)⟩
theorem tuple_eqJ (l b : Addr) (items items2 : Array Value) (n n2 : Nat) (dd dd2 : Option Addr) (sl sl2 : Array (Option Value)) (e : Nat → Bool) (I : Shared → Prop)
    (turn : ∀ i (h1 : i < items.size) (h2 : i < items2.size) s, (∀ j, j < i → e j = true) → I s → wpAny (model prog w) A.in1 (eqBool items[i] items2[i]) (fun r s' => r = e i ∧ I s') (fun e s' => R (.error e) s') s)
    (fin : ∀ s, I s → R (.ok (.ret (.bool ((List.range (min items.size items2.size)).all e && items.size == items2.size)))) s) {s : Shared} (hl1 : s.heap.get? l = some { cls := .type "tuple", dict := dd, data := .seq items n, slots := sl }) (hb1 : s.heap.get? b = some { cls := .type "tuple", dict := dd2, data := .seq items2 n2, slots := sl2 }) (h : I s) :
    wpAny (model prog w) A.in1 (Builtin.«tuple.__eq__» ⟨[.ref l, .ref b], []⟩) (FinOf prog w A R) (fun e s' => R (.error e) s') s := by
  have f2 := AutoSeq1.sub_tuple_tuple
  have hZ : (items.toList.zip items2.toList).length = min items.size items2.size := by simp
  have h0 := h
  obtain ⟨hp, g, d, tk, os⟩ := s
  wp_walk using wpAny_loadPart' hl1, wpAny_loadPart' hb1, wpAny_forIn_list _ (fun rest b s' => b.1 = none ∧ ∃ i, rest = (items.toList.zip items2.toList).drop i ∧ i ≤ min items.size items2.size ∧ (∀ j, j < i → e j = true) ∧ I s') _
  case turn =>
    rintro ⟨y, x⟩ rest b s' ⟨hb', i, hz, hi, hpre, hI⟩
    have hlt : i < (items.toList.zip items2.toList).length := by
      rcases Nat.lt_or_ge i (items.toList.zip items2.toList).length with h' | h'
      · exact h'
      · rw [List.drop_of_length_le h'] at hz; cases hz
    have hm : i < min items.size items2.size := hZ ▸ hlt
    have h1 : i < items.size := Nat.lt_of_lt_of_le hm (Nat.min_le_left _ _)
    have h2 : i < items2.size := Nat.lt_of_lt_of_le hm (Nat.min_le_right _ _)
    rw [List.drop_eq_getElem_cons hlt] at hz
    injection hz with hyx hrest
    have hy : y = items[i] := by have := congrArg Prod.fst hyx; simpa using this
    have hx : x = items2[i] := by have := congrArg Prod.snd hyx; simpa using this
    subst hy hx
    refine wpAny_bind (wpAny_mono (turn i h1 h2 s' hpre hI) (fun r s2 q2 => ?_) fun _ _ x => x)
    obtain ⟨hr, q2⟩ := q2
    cases hy : e i with
    | true =>
      rw [hy] at hr
      subst hr
      wp_walk
      exact ⟨rfl, i + 1, hrest, hm, fun j hj => by
        rcases Nat.lt_or_ge j i with q | q
        · exact hpre j q
        · rw [show j = i by omega]; exact hy, q2⟩
    | false =>
      rw [hy] at hr
      subst hr
      have hR := fin s2 q2
      rw [all_no hm hy] at hR
      wp_walk
      simpa using hR
  case fin =>
    rintro ⟨b1, b2⟩ s' ⟨hb', i, hz, hi, hpre, hI⟩
    simp only at hb'
    subst hb'
    have hge : min items.size items2.size ≤ i := by
      rcases Nat.lt_or_ge i (items.toList.zip items2.toList).length with h' | h'
      · rw [List.drop_eq_getElem_cons h'] at hz; cases hz
      · exact hZ ▸ h'
    have hi' : i = min items.size items2.size := by omega
    have hR : R _ s' := fin s' hI
    rw [all_of (hi' ▸ hpre)] at hR
    wp_walk
    simpa [Builtin.Tuple.tupleCompareSizes, bne] using hR
  case h =>
    exact ⟨rfl, 0, rfl, Nat.zero_le _, fun j hj => absurd hj (Nat.not_lt_zero j), h0⟩

theorem ne_loopJ (l b : Addr) (N : Nat) (e : Nat → Bool) (I : Shared → Prop) (hl : ListJ prog w A (fun e s' => R (.error e) s') l b N e I)
    (fin : ∀ s, I s → R (.ok (.ret (.bool (!(List.range N).all e)))) s) (k : Nat) :
    ∀ i : Nat, N - i = k → i ≤ N → (∀ j, j < i → e j = true) → ∀ s, I s →
      wpAny (model prog w) A.in1 (Builtin.«list.__eq__.loop» ⟨[.ref l, .ref b, rawInt i, rawInt 3], []⟩) (FinOf prog w A R) (fun e s' => R (.error e) s') s := by
  induction k with
  | zero =>
    intro i hk hi hp s h
    obtain ⟨items, items2, n, n2, hl1, hb1, hs1, hs2, _⟩ := hl i _ h
    have hi' : i = N := by omega
    have hR := fin s h
    rw [all_of (hi' ▸ hp)] at hR
    obtain ⟨hp, g, d, tk, os⟩ := s
    wp_walk using wpAny_loadPart' hl1, wpAny_loadPart' hb1
    have hi1 : items[((i : Nat) : Int).toNat]? = none := by simp; omega
    have hi2 : items2[((i : Nat) : Int).toNat]? = none := by simp; omega
    rw [hi1, hi2]
    wp_walk using wpAny_loadPart' hl1, wpAny_loadPart' hb1
    show R (.ok (.ret (.bool (items.size != items2.size)))) _
    rw [hs1, hs2]
    simpa using hR
  | succ k ih =>
    intro i hk hi hp s h
    obtain ⟨items, items2, n, n2, hl1, hb1, hs1, hs2, turn⟩ := hl i _ h
    have hlt : i < items.size := by omega
    have hlt2 : i < items2.size := by omega
    have ht := turn hp hlt hlt2
    obtain ⟨hp0, g, d, tk, os⟩ := s
    wp_walk using wpAny_loadPart' hl1, wpAny_loadPart' hb1
    have hi1 : items[((i : Nat) : Int).toNat]? = some items[i] := by simp [hlt]
    have hi2 : items2[((i : Nat) : Int).toNat]? = some items2[i] := by simp [hlt2]
    have hc : ((i : Int) + 1) = ((i + 1 : Nat) : Int) := by omega
    rw [hi1, hi2]
    refine wpAny_bind (wpAny_mono ht (fun r s2 h2 => ?_) fun _ _ x => x)
    obtain ⟨hr, h2⟩ := h2
    cases hb' : e i with
    | true =>
      rw [hb'] at hr
      subst hr
      have hrec := ih (i + 1) (by omega) (by omega) (fun j hj => by
        rcases Nat.lt_or_ge j i with q | q
        · exact hp j q
        · rw [show j = i by omega]; exact hb') s2 h2
      obtain ⟨hp2, g2, d2, tk2, os2⟩ := s2
      wp_walk
      rw [hc]
      exact ⟨plainId_quiet plain_eq_loop _, codeAny_builtin entry_eq_loop (by
        rw [Around.under_plainId plain_eq_loop _]
        exact hrec)⟩
    | false =>
      rw [hb'] at hr
      subst hr
      obtain ⟨items', items2', n', n2', hl2, hb2, hs1', hs2', _⟩ := hl i _ h2
      have hR := fin s2 h2
      rw [all_no (by omega) hb'] at hR
      obtain ⟨hp2, g2, d2, tk2, os2⟩ := s2
      wp_walk using wpAny_loadPart' hl2, wpAny_loadPart' hb2
      have k1 : i < items'.size := by omega
      have k2 : i < items2'.size := by omega
      have hi1' : items'[((i : Nat) : Int).toNat]? = some items'[i] := by simp [k1]
      have hi2' : items2'[((i : Nat) : Int).toNat]? = some items2'[i] := by simp [k2]
      rw [hi1', hi2']
      wp_walk
      simpa using hR
theorem list_neJ (l b : Addr) (N : Nat) (e : Nat → Bool) (I : Shared → Prop) (hl : ListJ prog w A (fun e s' => R (.error e) s') l b N e I)
    (fin : ∀ s, I s → R (.ok (.ret (.bool (!(List.range N).all e)))) s) {s : Shared} (h : I s) :
    wpAny (model prog w) A.in1 (Builtin.«list.__ne__» ⟨[.ref l, .ref b], []⟩) (FinOf prog w A R) (fun e s' => R (.error e) s') s := by
  obtain ⟨items, items2, n, n2, hl1, hb1, hs1, hs2, _⟩ := hl 0 _ h
  have hrec := ne_loopJ (A := A) (R := R) l b N e I hl fin _ 0 rfl (Nat.zero_le _) (fun j hj => absurd hj (Nat.not_lt_zero j)) s h
  obtain ⟨hp, g, d, tk, os⟩ := s
  have f3 := AutoSeq1.sub_list_list
  have hne : ¬ (items.size != items2.size) = true := by simp [hs1, hs2]
  wp_walk using wpAny_loadPart' hl1, wpAny_loadPart' hb1
  exact ⟨plainId_quiet plain_eq_loop _, codeAny_builtin entry_eq_loop (by
    rw [Around.under_plainId plain_eq_loop _]
    exact hrec)⟩
theorem tuple_neJ (l b : Addr) (items items2 : Array Value) (n n2 : Nat) (dd dd2 : Option Addr) (sl sl2 : Array (Option Value)) (e : Nat → Bool) (I : Shared → Prop)
    (turn : ∀ i (h1 : i < items.size) (h2 : i < items2.size) s, (∀ j, j < i → e j = true) → I s → wpAny (model prog w) A.in1 (eqBool items[i] items2[i]) (fun r s' => r = e i ∧ I s') (fun e s' => R (.error e) s') s)
    (fin : ∀ s, I s → R (.ok (.ret (.bool (!((List.range (min items.size items2.size)).all e && items.size == items2.size))))) s) {s : Shared} (hl1 : s.heap.get? l = some { cls := .type "tuple", dict := dd, data := .seq items n, slots := sl }) (hb1 : s.heap.get? b = some { cls := .type "tuple", dict := dd2, data := .seq items2 n2, slots := sl2 }) (h : I s) :
    wpAny (model prog w) A.in1 (Builtin.«tuple.__ne__» ⟨[.ref l, .ref b], []⟩) (FinOf prog w A R) (fun e s' => R (.error e) s') s := by
  have f2 := AutoSeq1.sub_tuple_tuple
  have hZ : (items.toList.zip items2.toList).length = min items.size items2.size := by simp
  have h0 := h
  obtain ⟨hp, g, d, tk, os⟩ := s
  wp_walk using wpAny_loadPart' hl1, wpAny_loadPart' hb1, wpAny_forIn_list _ (fun rest b s' => b.1 = none ∧ ∃ i, rest = (items.toList.zip items2.toList).drop i ∧ i ≤ min items.size items2.size ∧ (∀ j, j < i → e j = true) ∧ I s') _
  case turn =>
    rintro ⟨y, x⟩ rest b s' ⟨hb', i, hz, hi, hpre, hI⟩
    have hlt : i < (items.toList.zip items2.toList).length := by
      rcases Nat.lt_or_ge i (items.toList.zip items2.toList).length with h' | h'
      · exact h'
      · rw [List.drop_of_length_le h'] at hz; cases hz
    have hm : i < min items.size items2.size := hZ ▸ hlt
    have h1 : i < items.size := Nat.lt_of_lt_of_le hm (Nat.min_le_left _ _)
    have h2 : i < items2.size := Nat.lt_of_lt_of_le hm (Nat.min_le_right _ _)
    rw [List.drop_eq_getElem_cons hlt] at hz
    injection hz with hyx hrest
    have hy : y = items[i] := by have := congrArg Prod.fst hyx; simpa using this
    have hx : x = items2[i] := by have := congrArg Prod.snd hyx; simpa using this
    subst hy hx
    refine wpAny_bind (wpAny_mono (turn i h1 h2 s' hpre hI) (fun r s2 q2 => ?_) fun _ _ x => x)
    obtain ⟨hr, q2⟩ := q2
    cases hy : e i with
    | true =>
      rw [hy] at hr
      subst hr
      wp_walk
      exact ⟨rfl, i + 1, hrest, hm, fun j hj => by
        rcases Nat.lt_or_ge j i with q | q
        · exact hpre j q
        · rw [show j = i by omega]; exact hy, q2⟩
    | false =>
      rw [hy] at hr
      subst hr
      have hR := fin s2 q2
      rw [all_no hm hy] at hR
      wp_walk
      simpa using hR
  case fin =>
    rintro ⟨b1, b2⟩ s' ⟨hb', i, hz, hi, hpre, hI⟩
    simp only at hb'
    subst hb'
    have hge : min items.size items2.size ≤ i := by
      rcases Nat.lt_or_ge i (items.toList.zip items2.toList).length with h' | h'
      · rw [List.drop_eq_getElem_cons h'] at hz; cases hz
      · exact hZ ▸ h'
    have hi' : i = min items.size items2.size := by omega
    have hR : R _ s' := fin s' hI
    rw [all_of (hi' ▸ hpre)] at hR
    wp_walk
    simpa [Builtin.Tuple.tupleCompareSizes, bne] using hR
  case h =>
    exact ⟨rfl, 0, rfl, Nat.zero_le _, fun j hj => absurd hj (Nat.not_lt_zero j), h0⟩

end
section
variable {prog : Program} {w : World} {A : Around} {E : Value → Shared → Prop} {s : Shared}

theorem rc_eq_list {l b : Addr} {N : Nat} {e : Nat → Bool} {Q : Value → Shared → Prop} (hu : A.units < cLine) (I : Shared → Prop) (hl : ListJ prog w A E l b N e I)
    (fin : ∀ s, I s → Q (.bool ((List.range N).all e)) s) (h : I s) : wpAny (model prog w) A (richCompare .Eq (.ref l) (.ref b)) Q E s := by
  obtain ⟨items, items2, n, n2, hl1, hb1, _, _, _⟩ := hl 0 _ h
  refine wpAny_richCompare_same_room (op := .Eq) ⟨_, hl1, rfl⟩ ⟨_, hb1, rfl⟩ F.slot_list_eq (call_here F.slot_list_eq ⟨_, hl1, rfl⟩ F.entry_list_eq (F.args_list_eq_2 _ _) ?_) hu
  exact list_eqJ (R := wants (fun v s' => v ≠ .notImplemented ∧ Q v s') E) l b N e I hl (fun s' q => ⟨(fun x => nomatch x), fin s' q⟩) h
theorem rc_eq_tup {l b : Addr} {items items2 : Array Value} {e : Nat → Bool} {Q : Value → Shared → Prop} (hu : A.units < cLine) (I : Shared → Prop)
    (hl : s.heap.IsTuple l items) (hb : s.heap.IsTuple b items2)
    (turn : ∀ i (h1 : i < items.size) (h2 : i < items2.size) s, (∀ j, j < i → e j = true) → I s → wpAny (model prog w) A.in1 (eqBool items[i] items2[i]) (fun r s' => r = e i ∧ I s') E s)
    (fin : ∀ s, I s → Q (.bool ((List.range (min items.size items2.size)).all e && items.size == items2.size)) s) (h : I s) : wpAny (model prog w) A (richCompare .Eq (.ref l) (.ref b)) Q E s := by
  obtain ⟨⟨cls, dd, data, sl⟩, ho, hc, n, hd⟩ := id hl
  obtain ⟨⟨cls2, dd2, data2, sl2⟩, ho2, hc2, n2, hd2⟩ := id hb
  simp only at hc hd hc2 hd2
  subst hc hd hc2 hd2
  refine wpAny_richCompare_same_room (op := .Eq) ⟨_, ho, rfl⟩ ⟨_, ho2, rfl⟩ F.slot_tuple_eq (call_here F.slot_tuple_eq ⟨_, ho, rfl⟩ F.entry_tuple_eq (F.args_tuple_eq_2 _ _) ?_) hu
  exact tuple_eqJ (R := wants (fun v s' => v ≠ .notImplemented ∧ Q v s') E) l b items items2 n n2 dd dd2 sl sl2 e I turn (fun s' q => ⟨(fun x => nomatch x), fin s' q⟩) ho ho2 h

theorem rc_ne_list {l b : Addr} {N : Nat} {e : Nat → Bool} {Q : Value → Shared → Prop} (hu : A.units < cLine) (I : Shared → Prop) (hl : ListJ prog w A E l b N e I)
    (fin : ∀ s, I s → Q (.bool (!(List.range N).all e)) s) (h : I s) : wpAny (model prog w) A (richCompare .NotEq (.ref l) (.ref b)) Q E s := by
  obtain ⟨items, items2, n, n2, hl1, hb1, _, _, _⟩ := hl 0 _ h
  refine wpAny_richCompare_same_room (op := .NotEq) ⟨_, hl1, rfl⟩ ⟨_, hb1, rfl⟩ F.slot_list_ne (call_here F.slot_list_ne ⟨_, hl1, rfl⟩ F.entry_list_ne (F.args_list_ne_2 _ _) ?_) hu
  exact list_neJ (R := wants (fun v s' => v ≠ .notImplemented ∧ Q v s') E) l b N e I hl (fun s' q => ⟨(fun x => nomatch x), fin s' q⟩) h
theorem rc_ne_tup {l b : Addr} {items items2 : Array Value} {e : Nat → Bool} {Q : Value → Shared → Prop} (hu : A.units < cLine) (I : Shared → Prop)
    (hl : s.heap.IsTuple l items) (hb : s.heap.IsTuple b items2)
    (turn : ∀ i (h1 : i < items.size) (h2 : i < items2.size) s, (∀ j, j < i → e j = true) → I s → wpAny (model prog w) A.in1 (eqBool items[i] items2[i]) (fun r s' => r = e i ∧ I s') E s)
    (fin : ∀ s, I s → Q (.bool (!((List.range (min items.size items2.size)).all e && items.size == items2.size))) s) (h : I s) : wpAny (model prog w) A (richCompare .NotEq (.ref l) (.ref b)) Q E s := by
  obtain ⟨⟨cls, dd, data, sl⟩, ho, hc, n, hd⟩ := id hl
  obtain ⟨⟨cls2, dd2, data2, sl2⟩, ho2, hc2, n2, hd2⟩ := id hb
  simp only at hc hd hc2 hd2
  subst hc hd hc2 hd2
  refine wpAny_richCompare_same_room (op := .NotEq) ⟨_, ho, rfl⟩ ⟨_, ho2, rfl⟩ F.slot_tuple_ne (call_here F.slot_tuple_ne ⟨_, ho, rfl⟩ F.entry_tuple_ne (F.args_tuple_ne_2 _ _) ?_) hu
  exact tuple_neJ (R := wants (fun v s' => v ≠ .notImplemented ∧ Q v s') E) l b items items2 n n2 dd dd2 sl sl2 e I turn (fun s' q => ⟨(fun x => nomatch x), fin s' q⟩) ho ho2 h

end
/-- a != b by the class's own ==, the class having no != of its own -/
theorem ne_K {prog : Program} {w : World} {A : Around} {E : Value → Shared → Prop} {s : Shared} {K : PySem.W.Frag} {x C L f : Addr} {h₀ : Heap} {m : Str → Option Value} {ox : Obj} {od : Option Obj} {b tb : Value}
    {Q : Value → Shared → Prop} (hu : A.units + 1 < cLine) (F₀ : PyProof.Rows.Fr h₀ L s.heap m) (X₀ : K.In h₀) (I : PySem.W.InstAt s.heap x ox C od) (hb : PySem.W.Looks (model prog w) s.heap (typeOf b) tb) (hn : PySem.W.notFirst K C tb = true)
    (hs : PySem.W.findIn K (.ref C) "__eq__" = some (some (.ref f))) (hf : PySem.W.isFn K (.ref f) = true) (hne : PySem.W.findIn K (.ref C) "__ne__" = some (some (.builtin "object.__ne__"))) (hm : PySem.W.mroIn K C (.type "object") = some true)
    (h : wpAny (model prog w) A.in1 (call (.ref f) [.ref x, b]) (fun v s' => ∃ r, v = .bool r ∧ Q (.bool (!r)) s') E s) : wpAny (model prog w) A (richCompare .NotEq (.ref x) b) Q E s := by
  have X := X₀.keeps F₀.keep
  have sub : PySem.W.Looks (model prog w) s.heap (isInstance (.ref x) (.type "object")) true := I.type.andThen (PySem.W.looks_mroIn X hm)
  have entry : wpAny (model prog w) A.in1 (Builtin.«object.__ne__» ⟨[.ref x, b], []⟩) (FinOf prog w A (wants (fun v s' => ∃ r, v = .bool r ∧ Q v s') E)) (fun e s' => wants (fun v s' => ∃ r, v = .bool r ∧ Q v s') E (.error e) s') s := by
    unfold Builtin.«object.__ne__»
    repeat (first
      | with_reducible refine wpAny_cRoomFor (show A.in1.units < cLine from hu) ?_
      | (refine wpAny_bind (m := callSpecialIfBound? (.ref x) (Str.ofString "__eq__") [b])
          (PySem.W.ifBound_K X I hs hf (wpAny_mono h (fun r s' hr => by
            obtain ⟨b', rfl, hq⟩ := hr
            repeat (first | exact ⟨_, rfl, hq⟩ | exact wpAny_pure ⟨_, rfl, hq⟩ | exact wpAny_truthy_bool ⟨_, rfl, hq⟩ | (refine wpAny_bind (m := truthy (.bool _)) (wpAny_truthy_bool ?_)) | wp_step)) fun _ _ e => e)))
      | wp_step)
  have calls : wpAny (model prog w) A (call (.builtin "object.__ne__") [.ref x, b]) (fun v s' => ∃ r, v = .bool r ∧ Q v s') E s :=
    wpAny_call (codeAny_call_builtin F.cmp_object.ne.plain F.cmpEntry_ne (@PySem.W.check_slot (model prog w) _ _ s "object.__ne__" "object" "__ne__" (.ref x) [b] [] _ F.cmpKind_ne F.cmpSplit_ne sub (F.cmpArgs_ne _ _) entry))
  have one : wpAny (model prog w) A (tryCompare (.ref x) "__ne__" b) (fun r s' => ∃ v, r = some v ∧ Q v s') E s := by
    unfold tryCompare
    refine wpAny_bind ?_
    simp only [callSpecialIfBound?, bindSpecialIfBound?]
    refine wpAny_holding (wpAny_bind (wpAny_bind (wpAny_bind (I.type.here ((PySem.W.looks_findIn X hne).here ?_)))))
    simp only [F.cmp_object.ne.bind]
    refine wpAny_bind (wpAny_askSetting (wpAny_ite ?_))
    have fin : wpAny (model prog w) A (call (.builtin "object.__ne__") ([.ref x] ++ [b]) >>= fun v => pure (some v)) (fun r s' => wpAny (model prog w) A (match r with | some .notImplemented | none => pure none | some r => pure (some r)) (fun r s' => ∃ v, r = some v ∧ Q v s') E s') E s :=
      wpAny_bind (wpAny_mono calls (fun v s' h' => by
        obtain ⟨r, rfl, q⟩ := h'
        exact wpAny_pure (wpAny_pure ⟨_, rfl, q⟩)) fun _ _ h' => h')
    split
    · exact wpAny_bind (wpAny_pure (wpAny_pure (by exact fin)))
    · exact wpAny_tryCatch (wpAny_bind (wpAny_pure (wpAny_pure (by exact fin))))
  unfold richCompare
  simp only [oneThing_ref]
  refine wpAny_holding (wpAny_bind (wpAny_cRoomFor (Nat.lt_of_succ_lt hu) ?_))
  refine wpAny_bind (I.type.here (wpAny_bind (hb.here ?_)))
  split
  · rename_i q
    have e : PySem.W.subIn K tb (.ref C) = some false := by
      rcases Bool.or_eq_true_iff.mp hn with e | e
      · rw [beq_iff_eq.mp e] at q; simp at q
      · exact beq_iff_eq.mp e
    refine wpAny_bind ((PySem.W.looks_subIn X e).here ?_)
    simp only [Bool.false_eq_true, if_false]
    refine wpAny_bind (wpAny_mono one (fun r s' z => ?_) fun _ _ e => e)
    obtain ⟨v, rfl, hq⟩ := z
    exact wpAny_pure hq
  · refine wpAny_bind (wpAny_pure ?_)
    simp only [Bool.false_eq_true, if_false]
    refine wpAny_bind (wpAny_mono one (fun r s' z => ?_) fun _ _ e => e)
    obtain ⟨v, rfl, hq⟩ := z
    exact wpAny_pure hq
end QE
namespace Y
open PySem L2
open PySem.Spec PyProof.Rows
open Evl (Ex)

/-! ### == of values that hold instances -/
def W.at : W → Option V
  | .non => some .non
  | .bl b => some (.bl b)
  | .int i => some (.int i)
  | .str s => some (.str s)
  | _ => none
def eqA (a b : W) : Option Bool := match a.at, b.at with
  | some x, some y => some (eqV x y)
  | _, _ => none
/-- pure data, equal by the data -/
def eqP (p q : W) : Option Bool := match p.pd, q.pd with
  | some d, some e => if (SeqAt.shaped d && SeqAt.shaped e) = true then some (PyData.eqv d e) else none
  | _, _ => none
/-- the fields of two instances of the class c -/
def eqF (c : Nat) (fs gs : List W) : Option Bool := match c, fs, gs with
  | 0, [.int a, .int b], [.int a', .int b'] => some (decide (a = a') && decide (b = b'))
  | 1, [.int a], [.int a'] => some (decide (a = a'))
  | 2, [.int a], [.int a'] => some (decide (a = a'))
  | 3, [p], [q] => eqP p q
  | _, _, _ => none
/-- an instance of the class c with the fields fs == o, by the class's own == -/
def eqI (c : Nat) (fs : List W) (o : W) : Option Bool := match o with
  | .ins c' gs => if c = c' then eqF c fs gs else some false
  | .non => some false
  | .bl _ => some false
  | .int _ => some false
  | .str _ => some false
  | .tup _ => some false
  | .lst _ => some false
  | _ => none
def eqWs (f : W → W → Option Bool) : List W → List W → Option Bool
  | [], [] => some true
  | x :: xs, y :: ys => match f x y with
    | some true => eqWs f xs ys
    | some false => some false
    | none => none
  | _, _ => some false
/-- one level -/
def eqS (f : W → W → Option Bool) (a b : W) : Option Bool := match a, b with
  | .lst xs, .lst ys => eqWs f xs ys
  | .tup xs, .tup ys => eqWs f xs ys
  | .ins c fs, o => if c < 4 then eqI c fs o else none
  | a, b => eqA a b
def eqW : Nat → W → W → Option Bool
  | 0 => eqA
  | n + 1 => eqS (eqW n)

/-! ### types -/
inductive Ty0 where
  | b (n : String) | i (c : Nat)
  deriving DecidableEq
def Ty0.v (Z : Zx) : Ty0 → Value
  | .b n => .type n
  | .i c => .ref (Z.cls c)
def W.ty0 : W → Option Ty0
  | .non => some (.b "NoneType")
  | .bl _ => some (.b "bool")
  | .int _ => some (.b "int")
  | .str _ => some (.b "str")
  | .lst _ => some (.b "list")
  | .tup _ => some (.b "tuple")
  | .dK _ => some (.b "dict")
  | .scr _ => some (.b "list")
  | .ins c _ => some (.i c)
  | _ => none
def T.ty0 : T → Option Ty0
  | .fz w => w.ty0
  | .lst _ => some (.b "list")
  | .dK _ => some (.b "dict")
  | .dT _ => some (.b "dict")
  | .ins c _ => some (.i c)
  | .wo _ _ => none
def bases : List String := ["NoneType", "bool", "int", "str", "list", "tuple", "dict"]
def Ty0.ok (Z : Zx) : Ty0 → Prop
  | .b n => n ∈ bases
  | .i c => Z.has c = true
theorem Ty0.ok_b {Z : Zx} {n : String} (h : n ∈ bases) : Ty0.ok Z (.b n) := h
/-- what a row says of its own classes, for isinstance and == -/
structure ClsOk (K : PySem.W.Frag) (Z : Zx) : Prop where
  cl : ∀ c, Z.has c = true → C8.InsC K (Z.cls c)
  inj : ∀ c c', Z.has c = true → Z.has c' = true → Z.cls c = Z.cls c' → c = c'
  nfi : ∀ c c', Z.has c = true → Z.has c' = true → PySem.W.notFirst K (Z.cls c) (.ref (Z.cls c')) = true
  nfb : ∀ c n, Z.has c = true → n ∈ bases → PySem.W.notFirst K (Z.cls c) (.type n) = true
def isT : Ty0 → Ty0 → Bool
  | .i c, .i c' => c == c'
  | .b n, .b m => n == m || (n == "bool" && m == "int")
  | _, _ => false
/-- isinstance's answers for the class C of a row -/
def IsOk (K : PySem.W.Frag) (Z : Zx) (C : Ty0) : Prop := (∀ c, Z.has c = true → PySem.W.kitOne K (.ref (Z.cls c)) (C.v Z) = some (isT (.i c) C)) ∧ ∀ n, n ∈ bases → PySem.W.kitOne K (.type n) (C.v Z) = some (isT (.b n) C)
section
variable {K : PySem.W.Frag} {Z : Zx} {H : Hp}
theorem Rep.tyx (ok : ClsOk K Z) {v : V} {w : W} {t : Ty0} (h : Rep K Z H v w) (e : w.ty0 = some t) : TyX K H v (t.v Z) ∧ t.ok Z := by
  cases h with
  | non => cases e; exact ⟨.base .non, Ty0.ok_b (by decide)⟩
  | bl => cases e; exact ⟨.base (.bl _), Ty0.ok_b (by decide)⟩
  | int => cases e; exact ⟨.base (.int _), Ty0.ok_b (by decide)⟩
  | str => cases e; exact ⟨.base (.str _), Ty0.ok_b (by decide)⟩
  | ty => cases e
  | ob => cases e
  | tup h r =>
    cases e
    refine ⟨?_, Ty0.ok_b (by decide)⟩
    rcases h with h | ⟨o, its, n, h1, h2, _⟩
    · rcases h with h | ⟨o, h⟩
      · exact .base (.tup h)
      · exact .fTuple h
    · exact .kTuple h1 h2
  | lst h r => cases e; exact ⟨.base (.lst h), Ty0.ok_b (by decide)⟩
  | scr h =>
    cases e
    refine ⟨?_, Ty0.ok_b (by decide)⟩
    rcases h with h | ⟨o, its, n, h1, h2, _⟩
    · rcases h with h | ⟨o, h⟩
      · exact .base (.lst h)
      · exact .base (.frz h)
    · exact .kList h1 h2
  | dK h r =>
    cases e
    refine ⟨?_, Ty0.ok_b (by decide)⟩
    rcases h with h | ⟨o, h⟩
    · exact .base (.dK h)
    · exact .fDict h
  | dT h r => cases e
  | dF h r => cases e
  | tp _ _ _ => cases e
  | xc0 _ => cases e
  | xcd _ _ _ _ => cases e
  | ins z h n r =>
    cases e
    obtain ⟨c1, c2, c3, c4, c5, _⟩ := ok.cl _ z
    exact ⟨.base (.ins h c1 c2 c3 c4 c5), z⟩
mutual
theorem Rep.pd_uniq {X : Cx} {pins : List (Addr × Obj)} {σ : L2.St} {s : Shared} (I : Inv X pins σ H s) : ∀ (w u : W) {v : V} {d e : PyData}, Rep X.K Z H v w → Rep X.K Z H v u → w.pd = some d → u.pd = some e → d = e
  | .non, _, _, _, _, h, h', e1, e2 => by cases h; cases h'; cases e1; cases e2; rfl
  | .bl b, _, _, _, _, h, h', e1, e2 => by cases h; cases h'; cases e1; cases e2; rfl
  | .int b, _, _, _, _, h, h', e1, e2 => by cases h; cases h'; cases e1; cases e2; rfl
  | .str b, _, _, _, _, h, h', e1, e2 => by cases h; cases h'; cases e1; cases e2; rfl
  | .tup ws, u, _, _, _, h, h', e1, e2 => by
    cases h with
    | tup hs r =>
      unfold W.pd at e1
      obtain ⟨ds, h1, rfl⟩ := Option.map_eq_some_iff.mp e1
      cases h' with
      | tup hs' r' =>
        unfold W.pd at e2
        obtain ⟨es, h2, rfl⟩ := Option.map_eq_some_iff.mp e2
        have := I.tuple_inj hs hs'
        subst this
        rw [Reps.pd_uniq I ws _ r r' h1 h2]
      | lst hs' r' =>
        obtain ⟨_, _, ⟨o, g1, g2, _⟩, _⟩ := I.tuple hs
        obtain ⟨_, _, ⟨o', _, g3, g4, _⟩, _⟩ := I.list (.inl (.of hs'))
        rw [g1] at g3; cases g3
        exact absurd (g2.symm.trans g4) (by decide)
      | _ => simp [W.pd] at e2
  | .lst ws, u, _, _, _, h, h', e1, e2 => by
    cases h with
    | lst hs r =>
      unfold W.pd at e1
      obtain ⟨ds, h1, rfl⟩ := Option.map_eq_some_iff.mp e1
      cases h' with
      | lst hs' r' =>
        unfold W.pd at e2
        obtain ⟨es, h2, rfl⟩ := Option.map_eq_some_iff.mp e2
        rw [hs] at hs'; cases hs'
        rw [Reps.pd_uniq I ws _ r r' h1 h2]
      | tup hs' r' =>
        obtain ⟨_, _, ⟨o, g1, g2, _⟩, _⟩ := I.tuple hs'
        obtain ⟨_, _, ⟨o', _, g3, g4, _⟩, _⟩ := I.list (.inl (.of hs))
        rw [g1] at g3; cases g3
        exact absurd (g2.symm.trans g4) (by decide)
      | _ => simp [W.pd] at e2
  | .ty _, _, _, _, _, _, _, e, _ => by simp [W.pd] at e
  | .scr _, _, _, _, _, _, _, e, _ => by simp [W.pd] at e
  | .ob _, _, _, _, _, _, _, e, _ => by simp [W.pd] at e
  | .dK _, _, _, _, _, _, _, e, _ => by simp [W.pd] at e
  | .dT _, _, _, _, _, _, _, e, _ => by simp [W.pd] at e
  | .ins _ _, _, _, _, _, _, _, e, _ => by simp [W.pd] at e
theorem Reps.pd_uniq {X : Cx} {pins : List (Addr × Obj)} {σ : L2.St} {s : Shared} (I : Inv X pins σ H s) : ∀ (ws us : List W) {vs : List V} {ds es : List PyData}, Reps X.K Z H vs ws → Reps X.K Z H vs us → W.pds ws = some ds → W.pds us = some es → ds = es
  | [], _, _, _, _, h, h', e1, e2 => by cases h; cases h'; simp [W.pds] at e1 e2; exact e1.trans e2.symm
  | w :: ws, us, _, _, _, h, h', e1, e2 => by
    cases h with
    | cons h r =>
      cases h' with
      | cons h' r' =>
        unfold W.pds at e1 e2
        obtain ⟨d, g1, e1⟩ := Option.bind_eq_some_iff.mp e1
        obtain ⟨ds, g2, rfl⟩ := Option.map_eq_some_iff.mp e1
        obtain ⟨e, g3, e2⟩ := Option.bind_eq_some_iff.mp e2
        obtain ⟨es, g4, rfl⟩ := Option.map_eq_some_iff.mp e2
        rw [Rep.pd_uniq I w _ h h' g1 g3, Reps.pd_uniq I ws _ r r' g2 g4]
end
theorem eqV_self (x : V) (f : flatV x = true) : eqV x x = true := by
  cases x with
  | non => rfl
  | bl b => cases b <;> rfl
  | int i => simp [eqV]
  | str i => simp [eqV]
  | _ => exact absurd (show false = true from f) Bool.false_ne_true
theorem at_flat {w : W} {x : V} (e : w.at = some x) : flatV x = true := by
  cases w <;> first | (cases e; rfl) | (cases e)
theorem Rep.at_eq {v : V} {w : W} {x : V} (h : Rep K Z H v w) (e : w.at = some x) : v = x := by
  cases h <;> first | (cases e; rfl) | (cases e)
end
mutual
theorem eqv_self : ∀ d : PyData, d.canLay0 = true → PyData.eqv d d = true
  | .none, _ => by simp [PyData.eqv]
  | .bool b, _ => by simp [PyData.eqv]
  | .int b, _ => by simp [PyData.eqv]
  | .str b, _ => by simp [PyData.eqv]
  | .list ds, h => by simp only [PyData.eqv]; exact eqvs_self ds (by simpa [PyData.canLay0] using h)
  | .tuple ds, h => by simp only [PyData.eqv]; exact eqvs_self ds (by simpa [PyData.canLay0] using h)
  | .dict _, h => by simp [PyData.canLay0] at h
theorem eqvs_self : ∀ ds : List PyData, PyData.canLayAll0 ds = true → PyData.eqvAll ds ds = true
  | [], _ => by simp [PyData.eqvAll]
  | d :: ds, h => by
    obtain ⟨h1, h2⟩ := Bool.and_eq_true_iff.mp (show (d.canLay0 && PyData.canLayAll0 ds) = true by simpa [PyData.canLayAll0] using h)
    simp only [PyData.eqvAll]
    rw [eqv_self d h1, eqvs_self ds h2]
    rfl
end
end Y
namespace Y
open PySem L2
open PySem.Spec PyProof.Rows
open Evl (Ex)

/-! ### deep == with both answers -/
/-- what an own == promises -/
def cEq (c : Nat) : Ct := fun ts k _ => ∃ fs o r, ts = [.fz (.ins c fs), .fz o] ∧ eqI c fs o = some r ∧ k (.fz (.bl r)) ts
structure EqOwn (P : Program) (w : World) (K : PySem.W.Frag) (mg : Str → Option Value) (base : Heap) (CX' : CXT) (Z : Zx) (kq : Nat) : Prop where
  cls : ClsOk K Z
  own : ∀ c, c < 4 → Z.has c = true → ∃ f fd, FnOk P w K mg base CX' kq f fd ["self", "other"] (spOf K Z.z0 (cEq c)) ∧ PySem.W.findIn K (.ref (Z.cls c)) "__eq__" = some (some (.ref f)) ∧ PySem.W.isFn K (.ref f) = true ∧
    Binds K fd ["self", "other"] [] ∧ PySem.W.findIn K (.ref (Z.cls c)) "__ne__" = some (some (.builtin "object.__ne__"))
abbrev Dq := V → V → Hp → Bool → Prop
def DqW (K : PySem.W.Frag) (Z : Zx) (n : Nat) : Dq := fun x y H b => ∃ w1 w2, Rep K Z H x w1 ∧ Rep K Z H y w2 ∧ eqW n w1 w2 = some b
def EqG2 (X : Cx) (n : Nat) (D : Dq) : Prop :=
  ∀ (A : Around) (pins : List (Addr × Obj)) (s : Shared) (σ : L2.St) (H : Hp) (x y : V) (u v : Value) (b : Bool), Sub X n A → Inv X pins σ H s → RelV x u → RelV y v → D x y H b →
    wpAny (model X.prog X.w) A (eqBool u v) (fun r s' => r = b ∧ ∃ H', Inv X pins σ H' s' ∧ Ex H H') X.xe s
def nq (ng b : Bool) : Bool := if ng then !b else b
def opq (ng : Bool) : CmpOp := if ng then .NotEq else .Eq
def RcG2 (ng : Bool) (X : Cx) (n : Nat) (D : Dq) : Prop :=
  ∀ (A : Around) (pins : List (Addr × Obj)) (s : Shared) (σ : L2.St) (H : Hp) (x y : V) (u v : Value) (b : Bool), Sub X n A → Inv X pins σ H s → RelV x u → RelV y v → D x y H b →
    wpAny (model X.prog X.w) A (richCompare (opq ng) u v) (fun r s' => r = .bool (nq ng b) ∧ ∃ H', Inv X pins σ H' s' ∧ Ex H H') X.xe s
section
variable {X : Cx} {Z : Zx} {n kq : Nat}
theorem eqWs_self {f : W → W → Option Bool} {K : PySem.W.Frag} {H : Hp} (hf : ∀ w1 w2 v b, Rep K Z H v w1 → Rep K Z H v w2 → f w1 w2 = some b → b = true) : ∀ (ws us : List W) {vs : List V} {b : Bool}, Reps K Z H vs ws → Reps K Z H vs us → eqWs f ws us = some b → b = true
  | [], us, _, b, h, h', e => by cases h; cases h'; cases e; rfl
  | w :: ws, us, _, b, h, h', e => by
    cases h with
    | cons h r =>
      cases h' with
      | cons h' r' =>
        rename_i u us
        unfold eqWs at e
        cases q : f w u with
        | none => rw [q] at e; cases e
        | some z =>
          have := hf _ _ _ _ h h' q
          subst this
          rw [q] at e
          exact eqWs_self hf ws us r r' e
theorem eqA_some {a b : W} {r : Bool} (e : eqA a b = some r) : ∃ x y, a.at = some x ∧ b.at = some y ∧ r = eqV x y := by
  unfold eqA at e
  cases q1 : a.at with
  | none => rw [q1] at e; cases e
  | some x =>
    cases q2 : b.at with
    | none => rw [q1, q2] at e; cases e
    | some y => rw [q1, q2] at e; exact ⟨x, y, rfl, rfl, (Option.some.inj e).symm⟩
theorem eqA_self {K : PySem.W.Frag} {H : Hp} {w1 w2 : W} {v : V} {b : Bool} (h1 : Rep K Z H v w1) (h2 : Rep K Z H v w2) (e : eqA w1 w2 = some b) : b = true := by
  obtain ⟨x, y, e1, e2, rfl⟩ := eqA_some e
  have p1 := h1.at_eq e1
  have p2 := h2.at_eq e2
  rw [← p1, ← p2]
  exact eqV_self v (by rw [p1]; exact at_flat e1)
theorem int_self {K : PySem.W.Frag} {H : Hp} {v : V} {i j : Int} (h : Rep K Z H v (.int i)) (h' : Rep K Z H v (.int j)) : i = j := by
  cases h; cases h'; rfl
theorem eqW_self (ok : ClsOk X.K Z) {pins : List (Addr × Obj)} {σ : L2.St} {H : Hp} {s : Shared} (I : Inv X pins σ H s) : ∀ (n : Nat) (w1 w2 : W) (v : V) (b : Bool), Rep X.K Z H v w1 → Rep X.K Z H v w2 → eqW n w1 w2 = some b → b = true := by
  intro n
  induction n with
  | zero => intro w1 w2 v b h1 h2 e; exact eqA_self h1 h2 e
  | succ n ih =>
    intro w1 w2 v b h1 h2 e
    replace e : eqS (eqW n) w1 w2 = some b := e
    unfold eqS at e
    split at e
    · cases h1 with | lst a1 r1 =>
      cases h2 with | lst a2 r2 =>
      rw [a1] at a2; cases a2
      exact eqWs_self ih _ _ r1 r2 e
    · cases h1 with | tup a1 r1 =>
      cases h2 with | tup a2 r2 =>
      have := I.tuple_inj a1 a2; subst this
      exact eqWs_self ih _ _ r1 r2 e
    · rename_i c fs
      split at e
      · cases h1 with
        | ins z1 a1 n1 r1 =>
          cases h2 with
          | ins z2 a2 n2 r2 =>
            rw [a1] at a2
            injection a2 with a2
            injection a2 with p1 p2 p3
            subst p3
            have := ok.inj _ _ z1 z2 p1
            subst this
            rename_i gs
            replace e : (if c = c then eqF c fs gs else some false) = some b := e
            rw [if_pos rfl] at e
            generalize List.map (fun x : Str × V => x.snd) _ = vs at r1 r2
            unfold eqF at e
            split at e
            · cases r1 with | cons g1 r1 => cases r1 with | cons g1' r1 =>
              cases r2 with | cons g2 r2 => cases r2 with | cons g2' r2 =>
              cases e
              rw [int_self g1 g2, int_self g1' g2']; simp
            · cases r1 with | cons g1 r1 =>
              cases r2 with | cons g2 r2 =>
              cases e
              rw [int_self g1 g2]; simp
            · cases r1 with | cons g1 r1 =>
              cases r2 with | cons g2 r2 =>
              cases e
              rw [int_self g1 g2]; simp
            · cases r1 with | cons g1 r1 =>
              cases r2 with | cons g2 r2 =>
              unfold eqP at e
              split at e
              · rename_i d d' q1 q2
                split at e
                · rename_i sh
                  have := Rep.pd_uniq I _ _ g1 g2 q1 q2
                  subst this
                  cases e
                  obtain ⟨sh, _⟩ := Bool.and_eq_true_iff.mp sh
                  exact eqv_self _ (SeqAt.canLay_of_shaped sh)
                · cases e
              · cases e
            · cases e
          | tup a2 _ =>
            obtain ⟨_, _, ⟨o, g1, g2, _⟩, _⟩ := I.tuple a2
            obtain ⟨mA, O, _⟩ := ins_get I.hok a1
            have := O.obj
            rw [g1] at this; cases this
            cases g2
          | lst a2 _ => rw [a1] at a2; cases a2
          | _ => unfold eqI at e; cases e
      · cases e
    · exact eqA_self h1 h2 e
theorem turnG2 (hm : ∀ x y H H' b, Ex H H' → DqW X.K Z n x y H b → DqW X.K Z n x y H' b) {m : Nat} (h : EqG2 X m (DqW X.K Z n)) {A : Around} (sb : Sub X (m + 1) A) {pins : List (Addr × Obj)} {σ : L2.St} {H : Hp} {xs ys : List V} {its its2 : List Value} (r : Vals xs its) (r2 : Vals ys its2)
    (i : Nat) (b : Bool) (h1 : i < its.toArray.size) (h2 : i < its2.toArray.size) (hd : ∀ x y, xs[i]? = some x → ys[i]? = some y → DqW X.K Z n x y H b) (s' : Shared) (l : LoopI X pins σ H s') :
    wpAny (model X.prog X.w) A.in1 (eqBool its.toArray[i] its2.toArray[i]) (fun r s2 => r = b ∧ LoopI X pins σ H s2) X.xe s' := by
  obtain ⟨H1, I1, e1⟩ := l
  have g1 : its[i]? = some its.toArray[i] := by
    have h1' : i < its.length := by simpa using h1
    rw [List.getElem?_eq_getElem h1'] <;> simp
  have g2 : its2[i]? = some its2.toArray[i] := by
    have h2' : i < its2.length := by simpa using h2
    rw [List.getElem?_eq_getElem h2'] <;> simp
  have k1 : i < xs.length := by rw [r.length]; simpa using h1
  have k2 : i < ys.length := by rw [r2.length]; simpa using h2
  obtain ⟨u, hu, ru⟩ := r.get (List.getElem?_eq_getElem k1)
  obtain ⟨v, hv, rv⟩ := r2.get (List.getElem?_eq_getElem k2)
  rw [g1] at hu
  rw [g2] at hv
  rw [Option.some.inj hu, Option.some.inj hv]
  refine wpAny_mono (h A.in1 pins s' σ H1 _ _ u v b sb.in1 I1 ru rv (hm _ _ _ _ _ e1 (hd _ _ (List.getElem?_eq_getElem k1) (List.getElem?_eq_getElem k2)))) (fun r s2 q => ?_) fun _ _ x => x
  obtain ⟨hr, H2, I2, e2⟩ := q
  exact ⟨hr, H2, I2, e1.trans e2⟩
theorem mon_DqW : ∀ x y H H' b, Ex H H' → DqW X.K Z n x y H b → DqW X.K Z n x y H' b := fun x y H H' b e d => by
  obtain ⟨w1, w2, h1, h2, h3⟩ := d
  exact ⟨w1, w2, h1.mono e, h2.mono e, h3⟩
/-- the i-th answers up to the first no -/
def eqAt (f : W → W → Option Bool) (ws us : List W) (i : Nat) : Bool := match ws[i]?, us[i]? with
  | some w, some u => (f w u).getD false
  | _, _ => false
end
theorem eqWs_at {f : W → W → Option Bool} : ∀ (ws us : List W) (b : Bool), eqWs f ws us = some b →
    (∀ i w u, ws[i]? = some w → us[i]? = some u → (∀ j, j < i → eqAt f ws us j = true) → f w u = some (eqAt f ws us i)) ∧ b = ((List.range (min ws.length us.length)).all (eqAt f ws us) && ws.length == us.length)
  | [], [], b, e => by cases e; exact ⟨fun i w u h => by simp at h, rfl⟩
  | [], u :: us, b, e => by cases e; exact ⟨fun i w u h => by simp at h, rfl⟩
  | w :: ws, [], b, e => by cases e; exact ⟨fun i w u h h' => by simp at h', rfl⟩
  | w :: ws, u :: us, b, e => by
    unfold eqWs at e
    have e0 : eqAt f (w :: ws) (u :: us) 0 = (f w u).getD false := rfl
    have eS : ∀ i, eqAt f (w :: ws) (u :: us) (i + 1) = eqAt f ws us i := fun i => rfl
    have mn : min (w :: ws).length (u :: us).length = min ws.length us.length + 1 := by simp only [List.length_cons]; omega
    have rg : (List.range (min ws.length us.length + 1)).all (eqAt f (w :: ws) (u :: us)) = (eqAt f (w :: ws) (u :: us) 0 && (List.range (min ws.length us.length)).all (eqAt f ws us)) := by
      rw [List.range_succ_eq_map, List.all_cons, List.all_map]
      rfl
    rw [mn, rg, e0]
    cases q : f w u with
    | none => rw [q] at e; cases e
    | some z =>
      rw [q] at e
      cases z with
      | false =>
        cases e
        refine ⟨fun i w' u' h1 h2 hp => ?_, rfl⟩
        cases i with
        | zero =>
          simp at h1 h2; subst h1; subst h2
          rw [e0, q]; rfl
        | succ i => have := hp 0 (Nat.succ_pos _); rw [e0, q] at this; cases this
      | true =>
        obtain ⟨h3, h4⟩ := eqWs_at ws us b e
        refine ⟨fun i w' u' h1 h2 hp => ?_, ?_⟩
        · cases i with
          | zero =>
            simp at h1 h2; subst h1; subst h2
            rw [e0, q]; rfl
          | succ i => exact h3 i w' u' (by simpa using h1) (by simpa using h2) fun j hj => hp (j + 1) (by omega)
        · rw [h4]
          simp
section
variable {X : Cx} {Z : Zx} {n m kq : Nat} {ng : Bool}
theorem rcG2_of (ng : Bool) {A : Around} {u v : Value} {b : Bool} {P : Shared → Prop} {s : Shared} {E : Value → Shared → Prop} {prog : Program} {w : World}
    (h : ng = false → wpAny (model prog w) A (richCompare .Eq u v) (fun r s' => r = .bool b ∧ P s') E s) (h' : ng = true → wpAny (model prog w) A (richCompare .NotEq u v) (fun r s' => r = .bool (!b) ∧ P s') E s) :
    wpAny (model prog w) A (richCompare (opq ng) u v) (fun r s' => r = .bool (nq ng b) ∧ P s') E s := by
  cases ng with
  | false => exact h rfl
  | true => exact h' rfl
theorem rcG2_list (h : EqG2 X m (DqW X.K Z n)) {A : Around} {pins : List (Addr × Obj)} {s : Shared} {σ : L2.St} {H : Hp} {a b : Addr} {xs ys : List V} {ws us : List W} {r : Bool} (sb : Sub X (m + 1) A) (I : Inv X pins σ H s)
    (ha : H a = some (.lst xs)) (hb : H b = some (.lst ys)) (r1 : Reps X.K Z H xs ws) (r2 : Reps X.K Z H ys us) (hr : eqWs (eqW n) ws us = some r) :
    wpAny (model X.prog X.w) A (richCompare (opq ng) (.ref a) (.ref b)) (fun v s' => v = .bool (nq ng r) ∧ ∃ H', Inv X pins σ H' s' ∧ Ex H H') X.xe s := by
  obtain ⟨h1, h2⟩ := eqWs_at ws us r hr
  have l1 := r1.length
  have l2 := r2.length
  by_cases hl : xs.length = ys.length
  · have hrr : r = (List.range xs.length).all (eqAt (eqW n) ws us) := by
      rw [h2, ← l1, ← l2, hl, Nat.min_self]; simp
    have J : QE.ListJ X.prog X.w A X.xe a b xs.length (eqAt (eqW n) ws us) (fun s' => LoopI X pins σ H s') := fun i s' q => by
      obtain ⟨H1, I1, e1⟩ := id q
      obtain ⟨z, its, k, rv, e⟩ := I1.hok a _ (e1 _ _ ha)
      obtain ⟨z2, its2, k2, rv2, e2⟩ := I1.hok b _ (e1 _ _ hb)
      refine ⟨its.toArray, its2.toArray, k, k2, e, e2, by rw [List.size_toArray, ← rv.length], by rw [List.size_toArray, ← rv2.length, ← hl], fun hp g1 g2 => ?_⟩
      exact turnG2 mon_DqW h sb rv rv2 i _ g1 g2 (fun x y hx hy => by
        obtain ⟨w, hw, rw1⟩ := r1.getV hx
        obtain ⟨u, hu, ru1⟩ := r2.getV hy
        exact ⟨w, u, rw1, ru1, h1 i w u hw hu hp⟩) s' q
    refine rcG2_of ng (fun _ => ?_) (fun _ => ?_)
    · exact QE.rc_eq_list sb.room.units0 _ J (fun s' q => by rw [← hrr]; exact ⟨rfl, q⟩) ⟨H, I, Ex.refl _⟩
    · exact QE.rc_ne_list sb.room.units0 _ J (fun s' q => by rw [← hrr]; exact ⟨rfl, q⟩) ⟨H, I, Ex.refl _⟩
  · have hrr : r = false := by
      rw [h2]
      have : (ws.length == us.length) = false := by rw [← l1, ← l2]; simpa using hl
      rw [this, Bool.and_false]
    subst hrr
    obtain ⟨z, its, k, rv, e⟩ := I.hok a _ ha
    obtain ⟨z2, its2, k2, rv2, e2⟩ := I.hok b _ hb
    have hsz : (its.toArray.size != its2.toArray.size) = true := by
      rw [List.size_toArray, List.size_toArray, ← rv.length, ← rv2.length]
      simpa using hl
    refine rcG2_of ng (fun _ => ?_) (fun _ => ?_)
    · exact SeqAt.RcAt.lists_lengths ⟨_, e, rfl, _, rfl⟩ ⟨_, e2, rfl, _, rfl⟩ hsz sb.room.units0 _ _ _ _ ⟨rfl, H, I, Ex.refl _⟩
    · exact SeqAt.RcNeAt.lists_lengths ⟨_, e, rfl, _, rfl⟩ ⟨_, e2, rfl, _, rfl⟩ hsz sb.room.units0 _ _ _ _ ⟨rfl, H, I, Ex.refl _⟩
theorem rcG2_tup (h : EqG2 X m (DqW X.K Z n)) {A : Around} {pins : List (Addr × Obj)} {s : Shared} {σ : L2.St} {H : Hp} {a b : Addr} {xs ys : List V} {ws us : List W} {r : Bool} (sb : Sub X (m + 1) A) (I : Inv X pins σ H s)
    (ha : SqT X.K H a xs) (hb : SqT X.K H b ys) (r1 : Reps X.K Z H xs ws) (r2 : Reps X.K Z H ys us) (hr : eqWs (eqW n) ws us = some r) :
    wpAny (model X.prog X.w) A (richCompare (opq ng) (.ref a) (.ref b)) (fun v s' => v = .bool (nq ng r) ∧ ∃ H', Inv X pins σ H' s' ∧ Ex H H') X.xe s := by
  obtain ⟨h1, h2⟩ := eqWs_at ws us r hr
  have l1 := r1.length
  have l2 := r2.length
  obtain ⟨its, rv, e, z⟩ := I.tuple ha
  obtain ⟨its2, rv2, e2, z2⟩ := I.tuple hb
  have s1 : its.toArray.size = ws.length := by rw [List.size_toArray, ← rv.length, l1]
  have s2 : its2.toArray.size = us.length := by rw [List.size_toArray, ← rv2.length, l2]
  have turn : ∀ i (h1 : i < its.toArray.size) (h2 : i < its2.toArray.size) s', (∀ j, j < i → eqAt (eqW n) ws us j = true) → LoopI X pins σ H s' → wpAny (model X.prog X.w) A.in1 (eqBool its.toArray[i] its2.toArray[i]) (fun r s' => r = eqAt (eqW n) ws us i ∧ LoopI X pins σ H s') X.xe s' :=
    fun i g1 g2 s' hp q => turnG2 mon_DqW h sb rv rv2 i _ g1 g2 (fun x y hx hy => by
        obtain ⟨w, hw, rw1⟩ := r1.getV hx
        obtain ⟨u, hu, ru1⟩ := r2.getV hy
        exact ⟨w, u, rw1, ru1, h1 i w u hw hu hp⟩) s' q
  refine rcG2_of ng (fun _ => ?_) (fun _ => ?_)
  · exact QE.rc_eq_tup (e := eqAt (eqW n) ws us) sb.room.units0 (fun s' => LoopI X pins σ H s') e e2 turn (fun s' q => by rw [s1, s2, ← h2]; exact ⟨rfl, q⟩) ⟨H, I, Ex.refl _⟩
  · exact QE.rc_ne_tup (e := eqAt (eqW n) ws us) sb.room.units0 (fun s' => LoopI X pins σ H s') e e2 turn (fun s' q => by rw [s1, s2, ← h2]; exact ⟨rfl, q⟩) ⟨H, I, Ex.refl _⟩
theorem own_ty (ok : ClsOk X.K Z) {pins : List (Addr × Obj)} {s : Shared} {σ : L2.St} {H : Hp} (I : Inv X pins σ H s) {y : V} {v : Value} {o : W} {c : Nat} {fs : List W} {r : Bool} (hz : Z.has c = true) (ry : RelV y v) (ho : Rep X.K Z H y o) (e : eqI c fs o = some r) :
    ∃ tb, PySem.W.Looks (model X.prog X.w) s.heap (typeOf v) tb ∧ PySem.W.notFirst X.K (Z.cls c) tb = true := by
  have ht : ∃ t, o.ty0 = some t := by
    unfold eqI at e
    split at e <;> first | exact ⟨_, rfl⟩ | cases e
  obtain ⟨t, ht⟩ := ht
  obtain ⟨tx, tok⟩ := ho.tyx ok ht
  obtain ⟨P, kx, p, _⟩ := kit_of I ry tx
  refine ⟨t.v Z, kx.ty _ _ I.kIn p, ?_⟩
  cases t with
  | b n => exact ok.nfb c n hz tok
  | i c' => exact ok.nfi c c' hz tok
theorem rcG2_ins {CX' : CXT} {E : XK} (ow : EqOwn X.prog X.w X.K X.mg X.base CX' Z kq) (hp : Passes CX' X E) {A : Around} {pins : List (Addr × Obj)} {s : Shared} {σ : L2.St} {H : Hp} {x y : V} {u v : Value} {c : Nat} {fs : List W} {o : W} {r : Bool} (sb : Sub X (kq + 1) A) (I : Inv X pins σ H s) (rx : RelV x u) (ry : RelV y v)
    (hx : Rep X.K Z H x (.ins c fs)) (ho : Rep X.K Z H y o) (hc : c < 4) (e : eqI c fs o = some r) :
    wpAny (model X.prog X.w) A (richCompare (opq ng) u v) (fun v s' => v = .bool (nq ng r) ∧ ∃ H', Inv X pins σ H' s' ∧ Ex H H') X.xe s := by
  cases id hx with
  | @ins a _ dx gs _ hz hi hn hr =>
    cases rx
    obtain ⟨f, fd, F, hs, hf, hb, hne⟩ := ow.own c hc hz
    obtain ⟨tb, ht, hnf⟩ := own_ty ow.cls I hz ry ho e
    obtain ⟨mA, J, _⟩ := ins_get I.hok hi
    obtain ⟨od, J, _⟩ := J.look
    obtain ⟨m, hF⟩ := I.fr
    have hsp : spOf X.K Z.z0 (cEq c) [.ref a, y] H (fun v H' => v = .bl r ∧ Ex H H') E := by
      refine ⟨H, fun _ => none, [], [.fz (.ins c fs), .fz o], fun t _ => t = .fz (.bl r), fun _ _ => False, ⟨Ex.refl _, fun _ _ h => (nomatch h), fun q hq => (nomatch hq), List.nodup_nil, fun q hq => (nomatch hq), fun q hq => (nomatch hq), fun _ _ _ => rfl, fun _ _ _ h => (nomatch h), fun q hq => (nomatch hq)⟩,
        .cons (G1 := []) (.fz hx.z0) (.cons (G1 := []) (.fz ho.z0) .nil), ⟨fs, o, r, rfl, e, rfl⟩, fun H0' Gv Ga' H' v' t ts' ex wd rt _ ht => ?_, fun _ _ _ _ _ _ _ _ _ _ _ h => h.elim, fun _ h => (nomatch h)⟩
      subst ht
      cases rt with | fz rt => cases rt; exact ⟨rfl, ex.trans wd.ex⟩
    have call : ∀ (A' : Around), A'.frames = A.frames → Room kq A' → wpAny (model X.prog X.w) A' (call (.ref f) [.ref a, v]) (fun w' s' => w' = .bool r ∧ ∃ H', Inv X pins σ H' s' ∧ Ex H H') X.xe s := fun A' hfr hrm => by
      have e0 : Env0 X.prog X.w X.K X.mg X.base A' X.stack s H := by
        have e := I.env0
        exact ⟨by rw [hfr, sb.fr]; exact e.frames, e.mod, e.bs, e.bsz, e.funs, e.frf, e.hok, e.bare⟩
      have r2 : Vals [V.ref a, y] [Value.ref a, v] := .cons rfl (.cons ry .nil)
      refine wpAny_call (codeAny_mono (F.run A' X.stack s H ⟨[.ref a, v], []⟩ [.ref a, v] [.ref a, y] _ E hrm e0 (by
        have := hb s [.ref a, v] I.kIn (by simp)
        simpa using this) r2 hsp) fun r s' hq => ?_)
      cases r with
      | error e => exact hp pins σ H s e s' I hq
      | ok fl =>
        cases fl with
        | ret w =>
          obtain ⟨z, H', I', rz, ez, ex⟩ := I.after hq
          subst ez
          cases rz
          exact ⟨rfl, H', I', ex⟩
        | next => exact False.elim hq
        | brk => exact False.elim hq
        | cont => exact False.elim hq
    refine rcG2_of ng (fun _ => ?_) (fun _ => ?_)
    · refine PySem.W.cmp_K (op := .Eq) sb.room.units0 hF I.ok.mod.kin J ht hnf hs hf (wpAny_mono (call A rfl (sb.room.mono (Nat.le_succ _))) (fun w' s' q => ?_) fun _ _ e => e)
      obtain ⟨rfl, q⟩ := q
      exact ⟨rfl, q⟩
    · refine QE.ne_K (sb.room.in1.units0) hF I.ok.mod.kin J ht hnf hs hf hne (ow.cls.cl c hz).hm (wpAny_mono (call A.in1 rfl sb.room.in1) (fun w' s' q => ?_) fun _ _ e => e)
      obtain ⟨rfl, q⟩ := q
      exact ⟨r, rfl, rfl, q⟩
/-- == inside built-ins -/
theorem eqG2W {CX' : CXT} {E : XK} (ow : EqOwn X.prog X.w X.K X.mg X.base CX' Z kq) (hp : Passes CX' X E) : ∀ n, EqG2 X (n + kq + 1) (DqW X.K Z n) := by
  have flat : ∀ {m n : Nat} {A : Around} {pins : List (Addr × Obj)} {s : Shared} {σ : L2.St} {H : Hp} {x y : V} {u v : Value} {w1 w2 : W} {b : Bool}, Inv X pins σ H s → RelV x u → RelV y v → Rep X.K Z H x w1 → Rep X.K Z H y w2 → eqA w1 w2 = some b →
      wpAny (model X.prog X.w) A (eqBool u v) (fun r s' => r = b ∧ ∃ H', Inv X pins σ H' s' ∧ Ex H H') X.xe s := by
    intro m n A pins s σ H x y u v w1 w2 b I rx ry r1 r2 e
    obtain ⟨x', y', e1, e2, rfl⟩ := eqA_some e
    have p1 := r1.at_eq e1
    have p2 := r2.at_eq e2
    subst p1; subst p2
    exact eqAt_V (A := A) (s := s) rx ry (at_flat e1) (at_flat e2) X.prog X.w X.xe _ ⟨rfl, H, I, Ex.refl _⟩
  intro n
  induction n with
  | zero =>
    intro A pins s σ H x y u v b sb I rx ry d
    obtain ⟨w1, w2, r1, r2, e⟩ := d
    exact flat (m := 0) (n := 0) I rx ry r1 r2 e
  | succ n ih =>
    intro A pins s σ H x y u v b sb I rx ry d
    obtain ⟨w1, w2, r1, r2, e⟩ := d
    have self := fun (h : x = y) => eqW_self ow.cls I (n + 1) w1 w2 x b r1 (by rw [h]; exact r2) e
    have ih' : EqG2 X (n + kq + 1) (DqW X.K Z n) := ih
    have sb' : Sub X (n + kq + 1 + 1) A := sb.mono (by omega)
    have refs : ∀ {a a' : Addr}, x = .ref a → y = .ref a' → (wpAny (model X.prog X.w) A (richCompare (opq false) (.ref a) (.ref a')) (fun v s' => v = .bool (nq false b) ∧ ∃ H', Inv X pins σ H' s' ∧ Ex H H') X.xe s) →
        wpAny (model X.prog X.w) A (eqBool u v) (fun r s' => r = b ∧ ∃ H', Inv X pins σ H' s' ∧ Ex H H') X.xe s := by
      intro a a' ex ey h
      subst ex; subst ey
      cases rx; cases ry
      by_cases hab : a = a'
      · subst hab
        have hb := self rfl
        subst hb
        exact SeqAt.EqAt.same (A := A) (s := s) (.ref a) X.prog X.w X.xe _ ⟨rfl, H, I, Ex.refl _⟩
      · refine GQ.eqBool_refG hab (wpAny_mono h (fun r s' q => ?_) fun _ _ x => x)
        obtain ⟨hr', q⟩ := q
        exact ⟨b, hr', rfl, q⟩
    replace e : eqS (eqW n) w1 w2 = some b := e
    unfold eqS at e
    split at e
    · cases id r1 with | lst a1 g1 =>
      cases id r2 with | lst a2 g2 =>
      exact refs rfl rfl (rcG2_list (ng := false) ih' sb' I a1 a2 g1 g2 e)
    · cases id r1 with | tup a1 g1 =>
      cases id r2 with | tup a2 g2 =>
      exact refs rfl rfl (rcG2_tup (ng := false) ih' sb' I a1 a2 g1 g2 e)
    · rename_i c fs
      split at e
      · rename_i hc
        have h := rcG2_ins (ng := false) ow hp (sb.mono (by omega : kq + 1 ≤ n + 1 + kq + 1)) I rx ry r1 r2 hc e
        have hy : (∃ a', y = .ref a') ∨ ∃ z, w2.at = some z := by
          cases r2 with
          | non => exact .inr ⟨_, rfl⟩
          | bl => exact .inr ⟨_, rfl⟩
          | int => exact .inr ⟨_, rfl⟩
          | str => exact .inr ⟨_, rfl⟩
          | ty => unfold eqI at e; cases e
          | _ => exact .inl ⟨_, rfl⟩
        cases id r1 with
        | @ins a _ dx gs _ hz hi hn hr =>
          cases rx
          rcases hy with ⟨a', rfl⟩ | ⟨z, hz'⟩
          · cases ry
            exact refs rfl rfl h
          · have hne : (Value.ref a == v) = false := by
              have := r2.at_eq hz'
              subst this
              cases w2 <;> first | (cases hz'; first | (cases ry; rfl) | (obtain ⟨t, rfl⟩ := ry; rfl)) | (cases hz')
            unfold eqBool
            refine wpAny_holding ?_
            refine wpAny_ite_split (fun q => absurd q (by rw [hne]; exact Bool.false_ne_true)) (fun _ => ?_)
            refine wpAny_bind (wpAny_mono h (fun w' s' hv => ?_) fun _ _ x => x)
            obtain ⟨rfl, q⟩ := hv
            exact wpAny_truthy_bool ⟨rfl, q⟩
      · cases e
    · exact flat (m := 0) (n := 0) I rx ry r1 r2 e

/-! ### the operators -/
/-- lists, tuples, instances -/
def eqT (n : Nat) (a b : W) : Option Bool := match a, b with
  | .lst xs, .lst ys => eqWs (eqW n) xs ys
  | .tup xs, .tup ys => eqWs (eqW n) xs ys
  | .ins c fs, o => if c < 4 then eqI c fs o else none
  | _, _ => none
def rEqT (K : PySem.W.Frag) (Z : Zx) (n : Nat) (ng : Bool) : R2 := fun x y H Q => ∃ w1 w2 r, Rep K Z H x w1 ∧ Rep K Z H y w2 ∧ eqT n w1 w2 = some r ∧ ∀ H', Ex H H' → Q (.bl (nq ng r)) H'
theorem op_eqT {CX' : CXT} {E : XK} (ow : EqOwn X.prog X.w X.K X.mg X.base CX' Z kq) (hp : Passes CX' X E) (n : Nat) (hr : Room (n + kq + 2) X.A) : OpR X (compareOp (opq ng)) (rEqT X.K Z n ng) := by
  intro pins s σ H x y v u Q I rx ry h
  obtain ⟨w1, w2, r, r1, r2, e, q⟩ := h
  have key : wpAny (model X.prog X.w) X.A (richCompare (opq ng) v u) (fun r' s' => r' = .bool (nq ng r) ∧ ∃ H', Inv X pins σ H' s' ∧ Ex H H') X.xe s := by
    have sb : Sub X (n + kq + 1 + 1) X.A := ⟨hr, rfl⟩
    unfold eqT at e
    split at e
    · cases r1 with | lst a1 g1 =>
      cases r2 with | lst a2 g2 =>
      cases rx; cases ry
      exact rcG2_list (eqG2W ow hp n) sb I a1 a2 g1 g2 e
    · cases r1 with | tup a1 g1 =>
      cases r2 with | tup a2 g2 =>
      cases rx; cases ry
      exact rcG2_tup (eqG2W ow hp n) sb I a1 a2 g1 g2 e
    · split at e
      · rename_i hc
        exact rcG2_ins ow hp (sb.mono (by omega)) I rx ry r1 r2 hc e
      · cases e
    · cases e
  have fin : wpAny (model X.prog X.w) X.A (richCompare (opq ng) v u) (EP X pins σ Q) X.xe s := by
    refine wpAny_mono key (fun r' s' z => ?_) fun _ _ x => x
    obtain ⟨rfl, H', I', e'⟩ := z
    exact ⟨.bl (nq ng r), H', I', rfl, q H' e'⟩
  cases ng with
  | false => exact fin
  | true => exact fin
theorem RepP.up {K : PySem.W.Frag} {H0 H : Hp} {v : V} {w : W} (h : RepP K Z H0 H v w) (ex : Ex H0 H) : Rep K Z H v w := by
  cases h with
  | fz h => exact h.mono ex
  | lst h r => exact .lst h (r.mono ex)
  | dK h r => exact .dK (.of h) (r.mono ex)
  | dT h r => exact .dT (.of h) (r.mono ex)
  | ins z h n r => exact .ins z h n (r.mono ex)
/-- two values, by their forms -/
def eqD (n : Nat) (a b : W) : Option Bool := match a, b with
  | .lst xs, .lst ys => eqWs (eqW n) xs ys
  | .tup xs, .tup ys => eqWs (eqW n) xs ys
  | .ins c fs, o => if c < 4 then eqI c fs o else none
  | .int i, .int j => some (decide (i = j))
  | .str i, .str j => some (decide (i = j))
  | .bl i, .bl j => some (decide (i = j))
  | .non, .non => some true
  | .non, .int _ => some false
  | .non, .str _ => some false
  | .non, .bl _ => some false
  | .int _, .non => some false
  | .int _, .str _ => some false
  | .str _, .non => some false
  | .str _, .int _ => some false
  | .bl _, .non => some false
  | _, _ => none
theorem eqD_or {n : Nat} {a b : W} {r : Bool} (h : eqD n a b = some r) : eqT n a b = some r ∨ ∃ x y, a.at = some x ∧ b.at = some y ∧ scal x y = true ∧ r = decide (x = y) := by
  unfold eqD at h
  split at h
  · exact .inl h
  · exact .inl h
  · exact .inl h
  all_goals first
    | (cases h; exact .inr ⟨_, _, rfl, rfl, rfl, by simp⟩)
    | cases h
/-- a == b, a != b -/
def oEqX (ng : Bool) : O2 := fun a b k => (∃ d e, a.pd = some d ∧ b.pd = some e ∧ SeqAt.shaped d = true ∧ SeqAt.shaped e = true ∧ k (.bl (nq ng (PyData.eqv d e)))) ∨ ∃ r, eqD 6 a b = some r ∧ k (.bl (nq ng r))
def rEqX (K : PySem.W.Frag) (Z : Zx) (ng : Bool) : R2 := fun x y H Q => ((if ng then rNeD K else rEqD K) x y H Q ∨ rEqT K Z 6 ng x y H Q) ∨ (if ng then rNe else rEq) x y H Q
theorem opd_eqX {K : PySem.W.Frag} : OpD K Z (rEqX K Z ng) (oEqX ng) := by
  intro H0 H v1 w1 v2 w2 k Q e r1 r2 o f
  rcases o with ⟨d, d', h1, h2, s1, s2, q⟩ | ⟨r, h, q⟩
  · cases ng with
    | false => exact .inl (.inl ⟨d, d', r1.dp e h1, r2.dp e h2, s1, s2, f.same e .bl q⟩)
    | true => exact .inl (.inl ⟨d, d', r1.dp e h1, r2.dp e h2, s1, s2, f.same e .bl q⟩)
  · rcases eqD_or h with h | ⟨x, y, hx, hy, hs, rfl⟩
    · exact .inl (.inr ⟨w1, w2, r, r1.up e, r2.up e, h, fun H' e' => f H0 H' _ _ ⟨Ex.refl _, e', e.trans e', fun a o h n => by rw [n] at h; cases h⟩ .bl q⟩)
    · have e1 := (r1.up e).at_eq hx
      have e2 := (r2.up e).at_eq hy
      subst e1; subst e2
      cases ng with
      | false => exact .inr ⟨hs, f.same e .bl q⟩
      | true => exact .inr ⟨hs, f.same e .bl q⟩
theorem op_eqX {CX' : CXT} {E : XK} (ow : EqOwn X.prog X.w X.K X.mg X.base CX' Z kq) (hp : Passes CX' X E) (hr : Room (kq + 8) X.A) : OpR X (compareOp (opq ng)) (rEqX X.K Z ng) := by
  intro pins s σ H x y v u Q I rx ry h
  rcases h with (h | h) | h
  · have hu : X.A.units + 64 < cLine := by have := hr.un; omega
    cases ng with
    | false => exact op_eqD hu pins s σ H x y v u Q I rx ry h
    | true => exact op_neD hu pins s σ H x y v u Q I rx ry h
  · exact op_eqT ow hp 6 (by rw [show 6 + kq + 2 = kq + 8 by omega]; exact hr) pins s σ H x y v u Q I rx ry h
  · cases ng with
    | false => exact op_eq pins s σ H x y v u Q I rx ry h
    | true => exact op_ne pins s σ H x y v u Q I rx ry h
end
section
variable {X : Cx} {Z : Zx} {E : XS} {CX' : CXT} {kq : Nat} {e a b c : Expr} {da db dc : DE} {pos : Pos}
theorem pd_eqX {E9 : XK} (ow : EqOwn X.prog X.w X.K X.mg X.base CX' Z kq) (hp : Passes CX' X E9) (hr : Room (kq + 8) X.A) (ha : PD X Z E a da) (hb : PD X Z E b db) : PD X Z E (.Compare a [.Eq] [b] pos) (dOp (oEqX false) da db) := pd_cmp (op_eqX (ng := false) ow hp hr) opd_eqX ha hb (nomark _)
theorem pd_neX {E9 : XK} (ow : EqOwn X.prog X.w X.K X.mg X.base CX' Z kq) (hp : Passes CX' X E9) (hr : Room (kq + 8) X.A) (ha : PD X Z E a da) (hb : PD X Z E b db) : PD X Z E (.Compare a [.NotEq] [b] pos) (dOp (oEqX true) da db) := pd_cmp (op_eqX (ng := true) ow hp hr) opd_eqX ha hb (nomark _)
theorem ptd_eqX {E9 : XK} (ow : EqOwn X.prog X.w X.K X.mg X.base CX' Z kq) (hp : Passes CX' X E9) (hr : Room (kq + 8) X.A) (ha : PD X Z E a da) (hb : PD X Z E b db) : PTD X Z E (.Compare a [.Eq] [b] pos) (dTest (dOp (oEqX false) da db)) := ptd_cmp (op_eqX (ng := false) ow hp hr) opd_eqX ha hb (nomark _)
theorem ptd_neX {E9 : XK} (ow : EqOwn X.prog X.w X.K X.mg X.base CX' Z kq) (hp : Passes CX' X E9) (hr : Room (kq + 8) X.A) (ha : PD X Z E a da) (hb : PD X Z E b db) : PTD X Z E (.Compare a [.NotEq] [b] pos) (dTest (dOp (oEqX true) da db)) := ptd_cmp (op_eqX (ng := true) ow hp hr) opd_eqX ha hb (nomark _)
end
end Y
namespace Y
open PySem L2
open PySem.Spec PyProof.Rows
open Evl (Ex)

/-! ### isinstance -/
def R.ty0 (st : S) : R → Option Ty0
  | .w v => v.ty0
  | .pk i => (getT st i).bind T.ty0
def Ty0.vV (Z : Zx) : Ty0 → V
  | .b n => .ty n
  | .i c => .ref (Z.cls c)
def dIsi (C : Ty0) (d : DE) : DE := fun st k x => d st (fun r st1 => match r.ty0 st1 with
  | some t => k (.w (.bl (isT t C))) st1
  | none => False) x
section
variable {X : Cx} {Z : Zx} {E : XS} {e o a b ce : Expr} {es : List Expr} {da db dd : DE} {dw : DW} {pos pos' apos p : Pos} {C : Ty0}
theorem RepT.tyx {K : PySem.W.Frag} {H0 H F : Hp} {G Gt : Fp} (ok : ClsOk K Z) (wd : Wd H0 F G H) (sub : ∀ q ∈ Gt, q ∈ G) {v : V} {t : T} {ty : Ty0} (h : RepT K Z H0 v t Gt) (e : t.ty0 = some ty) : TyX K H v (ty.v Z) ∧ ty.ok Z := by
  cases h with
  | fz h => exact (h.mono wd.ex).tyx ok e
  | lst r => cases e; exact ⟨.base (.lst (wd.ow (_, _) (sub _ List.mem_cons_self))), Ty0.ok_b (by decide)⟩
  | dK r => cases e; exact ⟨.base (.dK (wd.ow (_, _) (sub _ List.mem_cons_self))), Ty0.ok_b (by decide)⟩
  | dT r => cases e; exact ⟨.base (.dT (wd.ow (_, _) (sub _ List.mem_cons_self))), Ty0.ok_b (by decide)⟩
  | ins z n r =>
    cases e
    obtain ⟨c1, c2, c3, c4, c5, _⟩ := ok.cl _ z
    exact ⟨.base (.ins (wd.ow (_, _) (sub _ List.mem_cons_self)) c1 c2 c3 c4 c5), z⟩
  | wo _ _ => cases e
theorem ClsV.of (C : Ty0) : ClsV (C.vV Z) (C.v Z) := by
  cases C with
  | b n => exact .ty n
  | i c => exact .own _
theorem pd_isi (ok : ClsOk X.K Z) (io : IsOk X.K Z C) (hg : Gl X "isinstance") (hm : X.mg "isinstance" = none) (he : PD X Z E e dd) (hc : PE X ce (tC (C.vV Z)))
    (hs1 : starEach [e, ce] X.env = (false, eval e X.env) :: starEach [ce] X.env := by rfl) (hs2 : starEach [ce] X.env = (false, eval ce X.env) :: starEach [] X.env := by rfl)
    (hpl : (backTo pos (starEach [ce] X.env)).any (·.1) = false := by rfl) : PD X Z E (.Call (.Name "isinstance" p) [e, ce] [] pos) (dIsi C dd) := by
  refine pe_weak (pe_callB call_isi hg hm PyProof.Rows.boot_isinstance (pa_cons he (pa_cons hc pa_nil hs2) hs1) (by decide) (by decide) hs1 hpl) fun σ H Q q => ?_
  obtain ⟨H0, F, G, pv, st, k, kx, wd, ss, hd, hk, hx⟩ := q
  refine tE_seq wd ss hx hd fun H1 G1 H1' st1 v r e1 wd1 ss1 rr k1 => ?_
  show rIsi X.K [v, C.vV Z] H1' Q
  cases q : r.ty0 st1 with
  | none => rw [q] at k1; exact k1.elim
  | some t =>
    rw [q] at k1
    have key : TyX X.K H1' v (t.v Z) ∧ t.ok Z := by
      cases rr with
      | w h => exact (h.mono wd1.ex).tyx ok q
      | pk hv =>
        rename_i i
        obtain ⟨t0, g1, g2⟩ := Option.bind_eq_some_iff.mp (show (getT st1 i).bind T.ty0 = some t from q)
        obtain ⟨Gx, A, B, h1, h2, _⟩ := ss1.own g1 hv
        exact h1.tyx ok wd1 (fun q hq => by rw [h2]; simp [hq]) g2
    refine ⟨v, C.vV Z, t.v Z, C.v Z, isT t C, rfl, ClsV.of C, key.1, ?_, hk _ _ _ _ _ _ e1 wd1 ss1 (.w .bl) k1⟩
    cases t with
    | b n => exact io.2 n key.2
    | i c => exact io.1 c key.2
end

/-! ### x.f = value, x an own name -/
section
variable {K : PySem.W.Frag} {Z : Zx} {H0 H F : Hp}
theorem RepTs.snoc {v : V} {t : T} {Gv : Fp} (r : RepT K Z H0 v t Gv) : ∀ {vs ts G}, RepTs K Z H0 vs ts G → RepTs K Z H0 (vs ++ [v]) (ts ++ [t]) (G ++ Gv)
  | _, _, _, .nil => by
    have := RepTs.cons r (RepTs.nil (K := K) (Z := Z) (H := H0))
    rw [List.append_nil] at this
    exact this
  | _, _, _, .cons (G1 := G1) (G2 := G2) h s => by
    have := RepTs.cons h (RepTs.snoc r s)
    rw [← List.append_assoc] at this
    exact this
theorem RepTs.setAt {v : V} {t : T} {Gv : Fp} (r : RepT K Z H0 v t Gv) : ∀ {vs ts G} {j : Nat}, RepTs K Z H0 vs ts G → j < ts.length → ∃ G' Gd, RepTs K Z H0 (vs.set j v) (ts.set j t) G' ∧ (Gv ++ G).Perm (G' ++ Gd)
  | _, _, _, j, .nil, h => absurd h (Nat.not_lt_zero _)
  | _, _, _, 0, .cons (G1 := G1) (G2 := G2) h s, _ => ⟨Gv ++ G2, G1, .cons r s, by
      rw [List.append_assoc]
      exact List.Perm.append_left Gv List.perm_append_comm⟩
  | _, _, _, j + 1, .cons (G1 := G1) (G2 := G2) h s, hl => by
    obtain ⟨G', Gd, h1, h2⟩ := RepTs.setAt r s (Nat.lt_of_succ_lt_succ hl)
    refine ⟨G1 ++ G', Gd, .cons h h1, ?_⟩
    have p1 : (Gv ++ (G1 ++ G2)).Perm (G1 ++ (Gv ++ G2)) := by
      rw [← List.append_assoc, ← List.append_assoc]
      exact List.Perm.append_right G2 List.perm_append_comm
    refine p1.trans ?_
    rw [List.append_assoc]
    exact List.Perm.append_left G1 h2
theorem perm3 {α : Type} (a b c : List α) : (a ++ (b ++ c)).Perm (b ++ (a ++ c)) := by
  have := (List.perm_append_comm (l₁ := a) (l₂ := b)).append_right c
  rwa [List.append_assoc, List.append_assoc] at this
theorem putF_new {f : Str} {y : V} : ∀ {fs : List (Str × V)}, f ∉ fs.map (·.1) → putF f y fs = fs ++ [(f, y)]
  | [], _ => rfl
  | (g, x) :: fs, h => by
    rw [List.map_cons, List.mem_cons, not_or] at h
    unfold putF
    rw [if_neg (fun e => h.1 e.symm), putF_new h.2]
    rfl
theorem putF_at {f : Str} {y : V} : ∀ {fs : List (Str × V)} {j : Nat}, (fs.map (·.1)).Nodup → (fs.map (·.1))[j]? = some f → (putF f y fs).map (·.1) = fs.map (·.1) ∧ (putF f y fs).map (·.2) = (fs.map (·.2)).set j y
  | [], j, _, h => by simp at h
  | (g, x) :: fs, 0, _, h => by
    simp at h; subst h
    unfold putF
    rw [if_pos rfl]
    exact ⟨rfl, rfl⟩
  | (g, x) :: fs, j + 1, nd, h => by
    rw [List.map_cons] at nd h
    obtain ⟨n1, n2⟩ := List.nodup_cons.mp nd
    have h' : (fs.map (·.1))[j]? = some f := by simpa using h
    have ne : ¬ g = f := fun e => n1 (by rw [e]; exact List.mem_of_getElem? h')
    obtain ⟨a, b⟩ := putF_at (y := y) n2 h'
    unfold putF
    rw [if_neg ne]
    refine ⟨?_, ?_⟩
    · rw [List.map_cons, List.map_cons, a]
    · rw [List.map_cons, List.map_cons, b]; rfl
theorem sts_get {pv : List V} {σ : L2.St} {st : S} {G : Fp} {i : Nat} {t : T} (ss : Sts K Z H0 pv σ st G) (h : getT st i = some t) : ∃ v, σ[i]? = some (some v) := by
  unfold getT at h
  cases q : at' st i with
  | un => rw [q] at h; cases h
  | fr _ _ _ _ _ _ => rw [q] at h; cases h
  | lo t0 => obtain ⟨v, _, _, _, h1, _⟩ := ss.lo_at q; exact ⟨v, h1⟩
  | mp k t0 => obtain ⟨v, _, _, _, h1, _⟩ := ss.mp_at q; exact ⟨v, h1⟩
end
section
variable {X : Cx} {Z : Zx} {E : XS} {v : Expr} {dw : DW} {pos pos' p : Pos} {C : Addr} {f x : Str} {cid i j : Nat}
theorem z_fsto (hN : X.N[i]? = some x) (hC : Z.cls cid = C) (cl : Cls X.K C) (hn : NoAttr X.K C f) (hv : PVD X Z E v dw) (hj : (fldN cid)[j]? = some f := by rfl)
    (hvis : Vis X.env.scope x := by first | exact Or.inl rfl | exact Or.inr (Or.inl rfl) | exact Or.inr (Or.inr rfl)) (hd : (x == ("__debug__" : Str)) = false := by decide)
    (hcd : (x == ("__classdict__" : Str)) = false := by decide) (hs : swapsWith v (some (.Attribute (.Name x p) f pos')) pos.line X.env = pure false := by rfl) :
    PZ X Z E (.Assign [.Attribute (.Name x p) f pos'] v pos) (dFSto i cid j dw) := by
  subst hC
  refine ps_weak (ps_fld (pe_var hN hvis hd hcd) hv hs) fun D σ H q => ?_
  obtain ⟨H0, F, G, pv, st, DD, wd, ss, hd, ha⟩ := q
  refine tW_seq wd ss ha.ex.at hd fun H1 Gv G1 H1' st1 y t e1 wd1 rt ss1 k1 => ?_
  cases q : getT st1 i with
  | none => rw [q] at k1; exact k1.elim
  | some t0 =>
    rw [q] at k1
    cases t0 with
    | ins c ts =>
      obtain ⟨rfl, hjl, k1⟩ := k1
      obtain ⟨v0, hv0⟩ := sts_get ss1 q
      refine ⟨v0, hv0, ?_⟩
      obtain ⟨Gx, A, B, h1, h2, h3⟩ := ss1.own q hv0
      cases h1 with
      | @ins a _ dx fs _ Gf hz n r =>
        subst h2
        have hi : H1' a = some (.ins (Z.cls c) dx fs) := wd1.ow (a, _) (by simp)
        have hlf : fs.length ≤ 3 := by
          have := congrArg List.length n
          rw [List.length_map, List.length_take] at this
          have := fld_short c
          omega
        refine ⟨a, _, dx, fs, rfl, hi, cl, hn, by omega, ?_⟩
        -- the world behind the write
        have nd : (fs.map (·.1)).Nodup := by rw [n]; exact (fld_nd c).sublist (List.take_sublist _ _)
        have wd2 : Wd H1 F ((Gv ++ A) ++ [(a, HO.ins (Z.cls c) dx fs)] ++ (Gf ++ B)) H1' := by
          have e : (Gv ++ A) ++ [(a, HO.ins (Z.cls c) dx fs)] ++ (Gf ++ B) = Gv ++ (A ++ (a, HO.ins (Z.cls c) dx fs) :: Gf ++ B) := by simp
          rw [e]; exact wd1
        have wd3 : Wd H1 F ((Gv ++ A) ++ [(a, HO.ins (Z.cls c) dx (putF f y fs))] ++ (Gf ++ B)) (upd H1' a (.ins (Z.cls c) dx (putF f y fs))) := wd2.write
        by_cases hlt : j < ts.length
        · have hname : (fs.map (·.1))[j]? = some f := by rw [n, List.getElem?_take_of_lt hlt]; exact hj
          obtain ⟨p1, p2⟩ := putF_at (y := y) nd hname
          obtain ⟨G', Gd, r2, pm⟩ := RepTs.setAt rt r hlt
          have rN : RepT X.K Z H1 (.ref a) (.ins c (putT ts j t)) ((a, .ins (Z.cls c) dx (putF f y fs)) :: G') := by
            have e : putT ts j t = ts.set j t := by unfold putT; rw [if_pos hlt]
            rw [e]
            refine .ins hz ?_ ?_
            · rw [p1, n, List.length_set]
            · rw [p2]; exact r2
          refine ha.nx _ _ _ _ _ e1 (wd3.sub (Gd := Gd) ?_) (h3 H1 _ _ (Ex.refl _) rN) k1
          have a1 : ((Gv ++ A) ++ [(a, HO.ins (Z.cls c) dx (putF f y fs))] ++ (Gf ++ B)).Perm ((A ++ [(a, HO.ins (Z.cls c) dx (putF f y fs))]) ++ ((Gv ++ Gf) ++ B)) := by
            have : ((Gv ++ A) ++ [(a, HO.ins (Z.cls c) dx (putF f y fs))] ++ (Gf ++ B)) = Gv ++ ((A ++ [(a, HO.ins (Z.cls c) dx (putF f y fs))]) ++ (Gf ++ B)) := by simp
            rw [this]
            have e2 : (A ++ [(a, HO.ins (Z.cls c) dx (putF f y fs))]) ++ ((Gv ++ Gf) ++ B) = (A ++ [(a, HO.ins (Z.cls c) dx (putF f y fs))]) ++ (Gv ++ (Gf ++ B)) := by simp
            rw [e2]
            exact perm3 _ _ _
          refine a1.trans ?_
          have a2 : ((A ++ [(a, HO.ins (Z.cls c) dx (putF f y fs))]) ++ ((Gv ++ Gf) ++ B)).Perm ((A ++ [(a, HO.ins (Z.cls c) dx (putF f y fs))]) ++ ((G' ++ Gd) ++ B)) := List.Perm.append_left _ (List.Perm.append_right B pm)
          refine a2.trans ?_
          have e3 : A ++ (a, HO.ins (Z.cls c) dx (putF f y fs)) :: G' ++ B ++ Gd = (A ++ [(a, HO.ins (Z.cls c) dx (putF f y fs))]) ++ (G' ++ (B ++ Gd)) := by simp
          have e4 : (A ++ [(a, HO.ins (Z.cls c) dx (putF f y fs))]) ++ ((G' ++ Gd) ++ B) = (A ++ [(a, HO.ins (Z.cls c) dx (putF f y fs))]) ++ (G' ++ (Gd ++ B)) := by simp
          rw [e3, e4]
          exact List.Perm.append_left _ (List.Perm.append_left _ List.perm_append_comm)
        · have hjl' : j = ts.length := by omega
          subst hjl'
          have hfl : fs.map (·.1) = (fldN c).take ts.length := n
          have hlen : ts.length < (fldN c).length := by
            rcases Nat.lt_or_ge ts.length (fldN c).length with q | q
            · exact q
            · rw [List.getElem?_eq_none q] at hj; cases hj
          have hnew : f ∉ fs.map (·.1) := fun hm => by
            rw [hfl] at hm
            obtain ⟨m, hm1, hm2⟩ := List.getElem_of_mem hm
            rw [List.length_take] at hm1
            have g1 : (fldN c)[m]? = some f := by
              rw [← hm2, List.getElem_take]
              exact List.getElem?_eq_getElem _
            have g2 := (List.getElem?_inj (by omega : m < (fldN c).length) (fld_nd c)).mp (g1.trans hj.symm)
            omega
          have pe := putF_new (y := y) hnew
          have rN : RepT X.K Z H1 (.ref a) (.ins c (putT ts ts.length t)) ((a, .ins (Z.cls c) dx (putF f y fs)) :: (Gf ++ Gv)) := by
            have e : putT ts ts.length t = ts ++ [t] := by unfold putT; rw [if_neg (Nat.lt_irrefl _)]
            rw [e, pe]
            refine .ins hz ?_ ?_
            · rw [List.map_append, hfl, List.length_append]
              show _ ++ [f] = (fldN c).take (ts.length + 1)
              rw [List.take_add_one, hj]
              rfl
            · rw [List.map_append]; exact RepTs.snoc rt r
          refine ha.nx _ _ _ _ _ e1 (wd3.perm ?_) (h3 H1 _ _ (Ex.refl _) rN) k1
          have e2 : A ++ (a, HO.ins (Z.cls c) dx (putF f y fs)) :: (Gf ++ Gv) ++ B = (A ++ [(a, HO.ins (Z.cls c) dx (putF f y fs))] ++ Gf) ++ (Gv ++ B) := by simp
          have e3 : ((Gv ++ A) ++ [(a, HO.ins (Z.cls c) dx (putF f y fs))] ++ (Gf ++ B)) = Gv ++ ((A ++ [(a, HO.ins (Z.cls c) dx (putF f y fs))] ++ Gf) ++ B) := by simp
          rw [e2, e3]
          exact (perm3 _ _ _).symm
    | _ => exact k1.elim
end
end Y
namespace Y
open PySem L2
open PySem.Spec PyProof.Rows
open He (Fa DefD FnW fnW frG asD eqO eqO_ok ga ma fAd)

/-! ### the head's facts, any -/
abbrev Ck := PySem.W.Frag → Bool
abbrev AlY : Type := Bool × List FnW
def obsY (fa : List Ck) (fn : List DefD) (K : PySem.W.Frag) : AlY := ((fa.all fun f => f K) && fn.all fun d => d.ok K, fn.map fun d => fnW K d.at_)
def valY (fn : List DefD) : AlY := (true, fn.map DefD.val)
def SaysY (fa : List Ck) (fn : List DefD) (K : PySem.W.Frag) : Prop := obsY fa fn K = valY fn
def obsYG (n : Nat) (fa : List Ck) (fn : List DefD) (g : Addr → Option Obj) : AlY := obsY fa fn (frG g (asD g n))
def hookY (n : Nat) (fa : List Ck) (fn : List DefD) : PySem.W.Hook where
  α := AlY
  obs := fun s => obsYG n fa fn s.heap.get?
  val := fun _ => valY fn
  says := fun _ h => ∃ K : PySem.W.Frag, K.In h ∧ SaysY fa fn K
  of := fun _ _ e => ⟨_, He.frG_in, e⟩
  keeps := fun _ _ _ ⟨K, hK, c⟩ k => ⟨K, PySem.W.Frag.In.keeps hK k, c⟩
theorem obsYG_eq {n : Nat} {fa : List Ck} {fn : List DefD} {g : Addr → Option Obj} {s : Shared} (h : ∀ a, g a = s.heap.get? a) : obsYG n fa fn g = (hookY n fa fn).obs s := by
  have e : g = s.heap.get? := funext h
  rw [e] <;> rfl
section
variable {fa : List Ck} {fn : List DefD} {K : PySem.W.Frag}
theorem SaysY.fact (c : SaysY fa fn K) (i : Nat) {f : Ck} (h : fa[i]? = some f := by rfl) : f K = true := by
  have c1 := (He.ba (show ((fa.all fun f => f K) && fn.all fun d => d.ok K) = true from congrArg (fun z : AlY => z.1) c)).1
  exact List.all_eq_true.mp c1 f (List.mem_of_getElem? h)
theorem SaysY.def_ (c : SaysY fa fn K) (i : Nat) {d : DefD} (h : fn[i]? = some d := by rfl) : ∃ fd, FunD K d.name d.qual d.params d.body d.scope (d.dvs K) (d.kws K) (fAd K d.at_) fd := by
  have c2 := (He.ba (show ((fa.all fun f => f K) && fn.all fun d => d.ok K) = true from congrArg (fun z : AlY => z.1) c)).2
  have e : fn.map (fun d => fnW K d.at_) = fn.map DefD.val := congrArg (fun z : AlY => z.2) c
  have e2 : (fn.map fun d => fnW K d.at_)[i]? = (fn.map DefD.val)[i]? := by rw [e]
  rw [List.getElem?_map, List.getElem?_map, h] at e2
  exact DefD.funD (Option.some.inj e2) (List.all_eq_true.mp c2 d (List.mem_of_getElem? h))
end

/-! ### own classes -/
/-- hs: the classes whose instances are met; xs: the exceptions -/
def zxL (hs xs : List (Nat × Str)) (K : PySem.W.Frag) : Zx := ⟨fun c => match (hs ++ xs).lookup c with
  | some x => ga K x
  | none => 0, fun c => (hs.lookup c).isSome, []⟩
def eqV' (a b : Option Value) : Bool := decide (a = b)
def insB (K : PySem.W.Frag) (x : Str) : Bool := (Fa.cls x).ok K && (eqO (PySem.W.findIn K (.ref (ga K x)) "__class__") (some (some (.builtin "object.__class__"))) &&
  (eqO (PySem.W.specialIn K (.builtin "object.__class__") "__get__") (some (some (.builtin "getset_descriptor.__get__"))) && (decide (PySem.W.takesIn K (.builtin "object.__class__") = some true) && (decide (PySem.W.mroIn K (ga K x) (.type "object") = some true) && decide (PySem.W.kitOne K (.ref (ga K x)) (.ref (ga K x)) = some true)))))
theorem insB_ok {K : PySem.W.Frag} {x : Str} (h : insB K x = true) : C8.InsC K (ga K x) := by
  obtain ⟨h1, h⟩ := He.ba h
  obtain ⟨h2, h⟩ := He.ba h
  obtain ⟨h3, h⟩ := He.ba h
  obtain ⟨h4, h⟩ := He.ba h
  obtain ⟨h5, h6⟩ := He.ba h
  exact ⟨He.cls_ok h1, eqO_ok h2, eqO_ok h3, of_decide_eq_true h4, of_decide_eq_true h5, of_decide_eq_true h6⟩
theorem lookup_mem {β : Type} {l : List (Nat × β)} {c : Nat} {x : β} (h : l.lookup c = some x) : (c, x) ∈ l := by
  induction l with
  | nil => cases h
  | cons p l ih =>
    rw [List.lookup_cons] at h
    cases q : (c == p.1) with
    | true => rw [q] at h; cases h; rw [eq_of_beq q]; exact List.mem_cons_self
    | false => rw [q] at h; exact List.mem_cons_of_mem _ (ih h)
theorem lookup_app {β : Type} {l m : List (Nat × β)} {c : Nat} {x : β} (h : l.lookup c = some x) : (l ++ m).lookup c = some x := by
  induction l with
  | nil => cases h
  | cons p l ih =>
    rw [List.cons_append, List.lookup_cons]
    rw [List.lookup_cons] at h
    cases q : (c == p.1) with
    | true => rw [q] at h; exact h
    | false => rw [q] at h; exact ih h
def clsB (hs : List (Nat × Str)) (K : PySem.W.Frag) : Bool := hs.all fun p => insB K p.2 && ((hs.all fun q => (p.1 == q.1) || !(ga K p.2 == ga K q.2)) && ((hs.all fun q => PySem.W.notFirst K (ga K p.2) (.ref (ga K q.2))) && bases.all fun n => PySem.W.notFirst K (ga K p.2) (.type n)))
theorem has_at {hs xs : List (Nat × Str)} {K : PySem.W.Frag} {c : Nat} (h : (zxL hs xs K).has c = true) : ∃ x, (c, x) ∈ hs ∧ (zxL hs xs K).cls c = ga K x := by
  obtain ⟨x, hx⟩ := Option.isSome_iff_exists.mp h
  refine ⟨x, lookup_mem hx, ?_⟩
  show (match (hs ++ xs).lookup c with | some x => ga K x | none => 0) = ga K x
  rw [lookup_app hx]
theorem clsB_ok {hs xs : List (Nat × Str)} {K : PySem.W.Frag} (h : clsB hs K = true) : ClsOk K (zxL hs xs K) := by
  have key : ∀ p ∈ hs, insB K p.2 = true ∧ (∀ q ∈ hs, p.1 = q.1 ∨ ga K p.2 ≠ ga K q.2) ∧ (∀ q ∈ hs, PySem.W.notFirst K (ga K p.2) (.ref (ga K q.2)) = true) ∧ ∀ n ∈ bases, PySem.W.notFirst K (ga K p.2) (.type n) = true := fun p hp => by
    obtain ⟨h1, h2⟩ := He.ba (List.all_eq_true.mp h p hp)
    obtain ⟨h2, h3⟩ := He.ba h2
    obtain ⟨h3, h4⟩ := He.ba h3
    refine ⟨h1, fun q hq => ?_, fun q hq => List.all_eq_true.mp h3 q hq, fun n hn => List.all_eq_true.mp h4 n hn⟩
    rcases Bool.or_eq_true_iff.mp (List.all_eq_true.mp h2 q hq) with e | e
    · exact .inl (eq_of_beq e)
    · exact .inr fun z => by rw [z] at e; simp at e
  refine ⟨fun c hc => ?_, fun c c' hc hc' e => ?_, fun c c' hc hc' => ?_, fun c n hc hn => ?_⟩
  · obtain ⟨x, hx, e⟩ := has_at hc
    rw [e]; exact insB_ok (key _ hx).1
  · obtain ⟨x, hx, e1⟩ := has_at hc
    obtain ⟨y, hy, e2⟩ := has_at hc'
    rw [e1, e2] at e
    rcases (key _ hx).2.1 _ hy with z | z
    · exact z
    · exact absurd e z
  · obtain ⟨x, hx, e1⟩ := has_at hc
    obtain ⟨y, hy, e2⟩ := has_at hc'
    rw [e1, e2]; exact (key _ hx).2.2.1 _ hy
  · obtain ⟨x, hx, e1⟩ := has_at hc
    rw [e1]; exact (key _ hx).2.2.2 n hn
def isB (hs : List (Nat × Str)) (C : Ty0) (K : PySem.W.Frag) : Bool := (hs.all fun p => decide (PySem.W.kitOne K (.ref (ga K p.2)) (C.v (zxL hs [] K)) = some (isT (.i p.1) C))) && bases.all fun n => decide (PySem.W.kitOne K (.type n) (C.v (zxL hs [] K)) = some (isT (.b n) C))
theorem isB_ok {hs xs : List (Nat × Str)} {C : Ty0} {K : PySem.W.Frag} (hc : match C with | .i c => (hs.lookup c).isSome = true | .b _ => True) (h : isB hs C K = true) : IsOk K (zxL hs xs K) C := by
  have e : C.v (zxL hs [] K) = C.v (zxL hs xs K) := by
    cases C with
    | b n => rfl
    | i c =>
      obtain ⟨x, hx⟩ := Option.isSome_iff_exists.mp hc
      show Value.ref (match (hs ++ []).lookup c with | some x => ga K x | none => 0) = Value.ref (match (hs ++ xs).lookup c with | some x => ga K x | none => 0)
      rw [lookup_app hx, lookup_app hx]
  obtain ⟨h1, h2⟩ := He.ba h
  rw [e] at h1 h2
  refine ⟨fun c hc => ?_, fun n hn => of_decide_eq_true (List.all_eq_true.mp h2 n hn)⟩
  obtain ⟨x, hx, e1⟩ := has_at hc
  rw [e1]
  exact of_decide_eq_true (List.all_eq_true.mp h1 _ hx)
def neB (x : Str) (K : PySem.W.Frag) : Bool := eqO (PySem.W.findIn K (.ref (ga K x)) "__ne__") (some (some (.builtin "object.__ne__")))
theorem neB_ok {x : Str} {K : PySem.W.Frag} (h : neB x K = true) : PySem.W.findIn K (.ref (ga K x)) "__ne__" = some (some (.builtin "object.__ne__")) := eqO_ok h
/-! ### constants of the module -/
/-- flat items of a tuple -/
def Dv0 : W → He.Dv
  | .int i => .int i
  | .str s => .str s
  | .bl b => .bl b
  | _ => .non
theorem reps_dv {K : PySem.W.Frag} {Z : Zx} {H : Hp} : ∀ {ws : List W}, (ws.all fun w => w.at.isSome) = true → Reps K Z H ((ws.map Dv0).map (He.Dv.v K)) ws
  | [], _ => .nil
  | w :: ws, h => by
    obtain ⟨h1, h2⟩ := He.ba h
    refine .cons ?_ (reps_dv h2)
    cases w <;> first | exact .non | exact .bl | exact .int | exact .str | cases h1
theorem pd_tupC {X : Cx} {Z : Zx} {E : XS} {x : Str} {ws : List W} {pos : Pos} (hg : Gl X x) (hm : X.mg x = some (.ref (ga X.K x))) (hb : He.tupB X.K x (ws.map Dv0) = true) (hw : (ws.all fun w => w.at.isSome) = true := by rfl) (hd : (x == ("__debug__" : Str)) = false := by decide) :
    PD X Z E (.Name x pos) (dC (.tup ws)) := pd_c (pe_glob hg hm (v := .ref (ga X.K x)) rfl hd) rfl fun H => .tup (He.tupB_ok hb H) (reps_dv hw)
theorem pd_intC {X : Cx} {Z : Zx} {E : XS} {x : Str} {i : Int} {pos : Pos} (hg : Gl X x) (hm : ∃ t, X.mg x = some (.int i t)) (hd : (x == ("__debug__" : Str)) = false := by decide) : PD X Z E (.Name x pos) (dC (.int i)) := by
  obtain ⟨t, hm⟩ := hm
  exact pd_c (pe_glob hg hm (v := .int i) ⟨t, rfl⟩ hd) rfl fun _ => .int
theorem pd_strC {X : Cx} {Z : Zx} {E : XS} {x : Str} {i : Str} {pos : Pos} (hg : Gl X x) (hm : ∃ t, X.mg x = some (.str i t)) (hd : (x == ("__debug__" : Str)) = false := by decide) : PD X Z E (.Name x pos) (dC (.str i)) := by
  obtain ⟨t, hm⟩ := hm
  exact pd_c (pe_glob hg hm (v := .str i) ⟨t, rfl⟩ hd) rfl fun _ => .str
end Y
namespace Y
open PySem L2
open PySem.Spec PyProof.Rows
open Evl (Ex)

/-! ### a law's end -/
def c_law : Ct := fun ts k _ => ∃ ns : List Int, ts = [.fz (.scr ns)] ∧ ns.length ≤ 63 ∧ k (.fz (.bl true)) ts
theorem law_sp {K : PySem.W.Frag} {Z : Zx} {H : Hp} {a : Addr} {ns : List Int} (hl : ns.length ≤ 63) (h : SqL K H a (ns.map V.int)) (hz : Z.tabs = [] := by rfl) : spOf K Z c_law [.ref a] H (fun v _ => v = .bl true) fun _ _ _ => False := by
  refine ⟨H, fun _ => none, [], [.fz (.scr ns)], fun t _ => t = .fz (.bl true), fun _ _ => False, ⟨Ex.refl _, fun _ _ h => (nomatch h), fun q hq => (nomatch hq), List.nodup_nil, fun q hq => (nomatch hq), fun q hq => (nomatch hq), fun _ _ _ => rfl, fun _ _ _ h => (nomatch h), fun q hq => (nomatch hq)⟩,
    .cons (G1 := []) (.fz (.scr h)) .nil, ⟨ns, rfl, hl, rfl⟩, fun H0' Gv Ga' H' v' t ts' ex wd rt _ ht => ?_, fun _ _ _ _ _ _ _ _ _ _ _ h => h.elim, fun _ h => by rw [hz] at h; cases h⟩
  subst ht
  cases rt with | fz rt => cases rt; rfl
theorem walk_ofY {l : PySem.W.OpenLaw} {n k : Nat} {q : Program} {loose : List Str} {XP : (Str → Option Value) → Heap → Prop} {YP : World → Heap → Prop} {d : DefRec} {CX : World → CXT} {x : Str}
    (hn : l.most = some n) (hn2 : n ≤ sizeLine) (hdf : d.params.defaults = []) (hr : Room k callerA)
    (F : ∀ (w : World) (mg : Str → Option Value) (fa : Addr) (h : Heap), YP w h → h.Ns mainGlobals mg → mg d.name = some (.ref fa) →
      ∃ (K : PySem.W.Frag) (fd : FuncData) (sp : Sp), K.In h ∧ (∀ (s : Shared) (u : Value), BindsTo s fd ⟨[u], []⟩ [(x, u)]) ∧
        (∀ (H : Hp) (a : Addr) (ns : List Int), ns.length ≤ n → SqL K H a (ns.map V.int) → sp [.ref a] H (fun v _ => v = .bl true) fun _ _ _ => False) ∧
        ∀ base : Heap, K.In base → base.Ns mainGlobals mg → FnOk l.prog w K mg base (CX w) k fa fd [x] sp)
    (hCX : ∀ (w : World) (H : Hp) (s : Shared) (e : Value) (s' : Shared), CX w [] H s (fun _ _ _ => False) e s' → False) :
    PySem.W.WalkO q loose XP YP l.row.toRowW d [] (fun f vs => PySem.call f vs) := by
  refine Att.attach_call hn hdf fun w s₀ s₁ mg mb fa o pm cd doc a vs ns G Y ho hd hcd hmg hobj hints hlen hg => ?_
  obtain ⟨K, fd, sp, KX, hb, hsp, hF⟩ := F w mg fa _ Y G.T.g hmg
  exact law_call KX G.T.g G.T.b G.T.builtins G.T.nolimit hg hobj hints (Nat.le_trans hlen hn2) hr hF hb (fun H hO hS => hsp H a ns hlen hS) fun H e s' => hCX w H s₁ e s'
theorem noCX {P : Program} (w : World) (H : Hp) (s : Shared) (e : Value) (s' : Shared) (h : L2.CX P w [] H s (fun _ _ _ => False) e s') : False := by
  obtain ⟨_, _, _, _, _, _, _, _, _, _, _, _, h⟩ := h
  exact h
structure EqNo (K : PySem.W.Frag) (Z : Zx) : Prop where
  cls : ClsOk K Z
theorem fd_uniq {K : PySem.W.Frag} {x x' q q' : Str} {a a' : Arguments} {b b' : List Stmt} {s s' : Scope} {d d' : List V} {k k' : List (Str × V)} {f : Addr} {fd fd' : FuncData} (F : FunD K x q a b s d k f fd) (F' : FunD K x' q' a' b' s' d' k' f fd') : fd = fd' := by
  obtain ⟨_, _, _, _, _, _, _, _, _, _, _, l, _⟩ := F.ex
  obtain ⟨_, _, _, _, _, _, _, _, _, _, _, l', _⟩ := F'.ex
  rw [l] at l'
  cases l'
  rfl
/-- within a comprehension nothing is let out -/
theorem passL {P : Program} {w : World} {X : Cx} : Passes (L2.CX P w) X E0 := fun _ _ _ _ _ _ _ h => by
  obtain ⟨_, _, _, _, _, _, _, _, _, _, _, _, h⟩ := h
  exact h.elim
theorem passLS {P : Program} {w : World} {X : Cx} : PassesS (L2.CX P w) X E0s := fun σ pins H s e s' I h => by
  obtain ⟨_, _, _, _, _, _, _, _, _, _, _, _, h⟩ := h
  exact h.elim
/-- == where no class has one of its own -/
theorem eqOwn0 {P : Program} {w : World} {K : PySem.W.Frag} {mg : Str → Option Value} {base : Heap} {CX' : CXT} {Z : Zx} (h : ClsOk K Z) (n : ∀ c, c < 4 → Z.has c = false) : EqOwn P w K mg base CX' Z 0 := ⟨h, fun c hc hz => by rw [n c hc] at hz; cases hz⟩
end Y
namespace Y
open PySem L2
open PySem.Spec PyProof.Rows
open Evl (Ex)

/-! ### the truth of an instance by its own __len__ -/
theorem truthy_len {prog : Program} {w : World} {A : Around} {E : Value → Shared → Prop} {s : Shared} {K : PySem.W.Frag} {x C f : Addr} {ox : Obj} {od : Option Obj} {Q : Bool → Shared → Prop} (X : K.In s.heap) (I : PySem.W.InstAt s.heap x ox C od)
    (hn : PySem.W.findIn K (.ref C) "__bool__" = some none) (hs : PySem.W.findIn K (.ref C) "__len__" = some (some (.ref f))) (hf : PySem.W.isFn K (.ref f) = true)
    (h : wpAny (model prog w) A.in1 (call (.ref f) [.ref x]) (fun v s' => ∃ n u, v = .int n u ∧ (0 ≤ n ∧ n < 2 ^ 63) ∧ Q (n != 0) { s' with toks := s'.toks + 1 }) E s) : wpAny (model prog w) A (truthy (.ref x)) Q E s := by
  have key : wpAny (model prog w) A (runValue (.builtin "len" ⟨[.ref x], []⟩)) (fun r s' => ∃ n u, r = .int n u ∧ Q (n != 0) s') E s := by
    refine wpAny_runValue (codeAny_builtin entry_len ?_)
    rw [Around.under_plainId plain_len _]
    refine wpAny_mono (Q := fun fin s' => ∃ r, fin = .done (.ret r) ∧ ∃ n u, r = .int n u ∧ Q (n != 0) s') ?_ (fun fin s' h' => by obtain ⟨r, rfl, hq⟩ := h'; exact hq) fun _ _ e => e
    unfold Builtin.«len»
    refine wpAny_bind (m := oneArg "len" _) (wpAny_pure ?_)
    refine wpAny_bind (m := callSpecial? (.ref x) (Str.ofString "__len__")) (PySem.W.special_fn X I hs (beq_iff_eq.mp hf) (wpAny_mono h (fun r s' hr => ?_) fun _ _ y => y))
    obtain ⟨n, u, rfl, ⟨h0, h1⟩, hq⟩ := hr
    refine wpAny_bind (wpAny_holding (wpAny_pure ?_))
    refine wpAny_bind (wpAny_letGo ?_)
    show wpAny _ _ (if n < 0 then _ else _) _ _ _
    rw [if_neg (by omega)]
    show wpAny _ _ (if n ≥ 2 ^ 63 then _ else _) _ _ _
    rw [if_neg (by omega)]
    exact wpAny_bind (wpAny_mkInt (wpAny_pure ⟨_, rfl, n, _, rfl, hq⟩))
  unfold truthy
  refine wpAny_bind (m := callSpecial? (.ref x) (Str.ofString "__bool__")) (wpAny_bind (wpAny_bind (I.type.here ((PySem.W.looks_findIn X hn).here (wpAny_pure ?_)))))
  refine wpAny_bind (wpAny_bind (I.type.here ((PySem.W.looks_findIn X hs).here ?_)))
  exact wpAny_bind (wpAny_mono key (fun r s' h' => by obtain ⟨n, u, rfl, hq⟩ := h'; exact wpAny_pure hq) fun _ _ e => e)
theorem call_bool_own {prog : Program} {w : World} {A : Around} {E : Value → Shared → Prop} {s : Shared} {x : Addr} {Q : Value → Shared → Prop} (h : wpAny (model prog w) A.in1.in1 (truthy (.ref x)) (fun b s' => Q (.bool b) s') E s) :
    wpAny (model prog w) A (call (.type "bool") [.ref x]) Q E s := by
  refine callType_codes (T := "bool") (Bi := Builtin.«object.__init__») (Q₁ := fun r s₁ => ∃ b, r = .bool b ∧ Q r s₁) PySem.F.called_bool (PySem.F.typeCall_bool_1 _) PySem.F.entry_object_init ?_ ?_
  · refine codeAny_of_tree ?_
    show wpAny _ A.in1.in1 (do checkBuiltinCall "bool.__new__" ⟨[.type "bool", .ref x], []⟩; again (.builtin "bool.__new__" ⟨[.type "bool", .ref x], []⟩)) _ _ s
    refine wpAny_bind (wpAny_of_eq (PySem.F.newCall_bool_1 _) (wpAny_pure ⟨plainId_quiet (by decide +kernel) _, codeAny_builtin PySem.F.entry_bool_new ?_⟩))
    rw [Around.under_plainId (by decide +kernel) _]
    have f1 := PySem.F.conv_sub_bool
    unfold Builtin.«bool.__new__»
    repeat (any_goals (first | assumption | (refine wpAny_bind (m := truthy (.ref x)) (wpAny_mono h (fun b s' hb => wpAny_pure ⟨b, rfl, hb⟩) fun _ _ e => e)) | wp_step))
  · rintro obj s₁ ⟨b, rfl, hq⟩
    exact ⟨rfl, PySem.F.args_object_init_2 _ _, object_init_meets PySem.F.called_bool.init.lookup PySem.F.called_bool.made (by decide) prog w A.in1 _ s₁ ⟨rfl, rfl, hq⟩⟩
/-! ### str(x), repr(x), len(x) of an instance by its own def -/
section
variable {X : Cx} {CX' : CXT} {E : XK} {n : Nat} {f C : Addr} {fd : FuncData} {sp : Sp} {ps : List Str}
/-- the def called at one instance, somewhere below -/
theorem own1_run (F : FnOk X.prog X.w X.K X.mg X.base CX' n f fd ps sp) (hb : Binds X.K fd ps []) (hx : Passes CX' X E) {A : Around} (hfr : A.frames = X.A.frames) (hr : Room n A) {pins : List (Addr × Obj)} {σ : L2.St} {H : Hp} {s : Shared} {a : Addr} {P : VK}
    (I : Inv X pins σ H s) (h : sp [.ref a] H P E) : wpAny (model X.prog X.w) A (call (.ref f) [.ref a]) (fun w s' => ∃ v H', Inv X pins σ H' s' ∧ RelV v w ∧ P v H') X.xe s := by
  have e0 : Env0 X.prog X.w X.K X.mg X.base A X.stack s H := by
    have e := I.env0
    exact ⟨by rw [hfr]; exact e.frames, e.mod, e.bs, e.bsz, e.funs, e.frf, e.hok, e.bare⟩
  have hl := F.len _ _ _ _ h
  have r2 : Vals [V.ref a] [Value.ref a] := .cons rfl .nil
  refine wpAny_call (codeAny_mono (F.run A X.stack s H ⟨[.ref a], []⟩ (ps.zip [.ref a] |>.map (·.2)) [.ref a] P E hr e0 (by
    have := hb s [.ref a] I.kIn (by simpa using hl)
    have e : (ps.zip [Value.ref a]).map (·.2) = [.ref a] := by
      cases ps with
      | nil => simp at hl
      | cons p ps => cases ps <;> simp at hl ⊢
    rw [e]
    simpa using this) (by
    have e : (ps.zip [Value.ref a]).map (·.2) = [.ref a] := by
      cases ps with
      | nil => simp at hl
      | cons p ps => cases ps <;> simp at hl ⊢
    rw [e]; exact r2) h) fun r s' hq => ?_)
  cases r with
  | error e => exact hx pins σ H s e s' I hq
  | ok fl =>
    cases fl with
    | ret w =>
      obtain ⟨z, H', I', rz, q⟩ := I.after hq
      exact ⟨z, H', I', rz, q⟩
    | next => exact False.elim hq
    | brk => exact False.elim hq
    | cont => exact False.elim hq
def rStrOwn (C : Addr) (sp : Sp) (E : XK) : List V → Hp → VK → Prop := fun xs H Q => ∃ a dx fs, xs = [.ref a] ∧ H a = some (.ins C dx fs) ∧ sp [.ref a] H (fun v H' => ∃ z, v = .str z ∧ Q (.str z) H') E
theorem call_strOwn (hs : PySem.W.findIn X.K (.ref C) "__str__" = some (some (.ref f))) (hf : PySem.W.isFn X.K (.ref f) = true) (F : FnOk X.prog X.w X.K X.mg X.base CX' n f fd ps sp) (hr : Room (n + 2) X.A) (hb : Binds X.K fd ps []) (hx : Passes CX' X E) : CallR X (.type "str") (rStrOwn C sp E) := by
  intro pins s σ H xs us Q I r h
  obtain ⟨a, dx, fs, rfl, ha, q⟩ := h
  obtain ⟨u, rfl, ru⟩ := r.one
  cases (show u = Value.ref a from ru)
  obtain ⟨mA, J, _⟩ := ins_get I.hok ha
  obtain ⟨od, J, _⟩ := J.look
  have hr2 : Room n X.A.in1.in1 := (show Room (n + 1) X.A.in1 from Room.in1 hr).in1
  refine PySem.W.kso_call hr2.units0 I.kIn J hs hf (wpAny_mono (own1_run (A := X.A.in1.in1) F hb hx rfl hr2 I q) (fun w s' z => ?_) fun _ _ x => x)
  obtain ⟨v, H', I', rv, z, rfl, qz⟩ := z
  obtain ⟨t, rfl⟩ := (show ∃ t, w = Value.str z t from rv)
  exact ⟨.str z, H', I', ⟨t, rfl⟩, qz⟩
theorem call_reprOwn (hs : PySem.W.findIn X.K (.ref C) "__repr__" = some (some (.ref f))) (hf : PySem.W.isFn X.K (.ref f) = true) (F : FnOk X.prog X.w X.K X.mg X.base CX' n f fd ps sp) (hr : Room (n + 2) X.A) (hb : Binds X.K fd ps []) (hx : Passes CX' X E) : CallR X (.builtin "repr") (rStrOwn C sp E) := by
  intro pins s σ H xs us Q I r h
  obtain ⟨a, dx, fs, rfl, ha, q⟩ := h
  obtain ⟨u, rfl, ru⟩ := r.one
  cases (show u = Value.ref a from ru)
  obtain ⟨mA, J, _⟩ := ins_get I.hok ha
  obtain ⟨od, J, _⟩ := J.look
  obtain ⟨m, hF⟩ := I.fr
  have hr2 : Room (n + 1) X.A.in1 := Room.in1 hr
  refine PySem.W.repr_K hr2.units0 hF I.ok.mod.kin J hs hf (wpAny_mono (own1_run (A := X.A.in1) F hb hx rfl (hr2.mono (Nat.le_succ _)) I q) (fun w s' z => ?_) fun _ _ x => x)
  obtain ⟨v, H', I', rv, z, rfl, qz⟩ := z
  obtain ⟨t, rfl⟩ := (show ∃ t, w = Value.str z t from rv)
  exact ⟨.str z, H', I', ⟨t, rfl⟩, qz⟩
def rLenOwn (C : Addr) (sp : Sp) (E : XK) : List V → Hp → VK → Prop := fun xs H Q => ∃ a dx fs, xs = [.ref a] ∧ H a = some (.ins C dx fs) ∧ sp [.ref a] H (fun v H' => ∃ i : Int, v = .int i ∧ (0 ≤ i ∧ i < 2 ^ 63) ∧ Q (.int i) H') E
theorem call_lenOwn (hs : PySem.W.findIn X.K (.ref C) "__len__" = some (some (.ref f))) (hf : PySem.W.isFn X.K (.ref f) = true) (F : FnOk X.prog X.w X.K X.mg X.base CX' n f fd ps sp) (hr : Room (n + 2) X.A) (hb : Binds X.K fd ps []) (hx : Passes CX' X E) : CallR X (.builtin "len") (rLenOwn C sp E) := by
  intro pins s σ H xs us Q I r h
  obtain ⟨a, dx, fs, rfl, ha, q⟩ := h
  obtain ⟨u, rfl, ru⟩ := r.one
  cases (show u = Value.ref a from ru)
  obtain ⟨mA, J, _⟩ := ins_get I.hok ha
  obtain ⟨od, J, _⟩ := J.look
  obtain ⟨m, hF⟩ := I.fr
  have hr2 : Room (n + 1) X.A.in1 := Room.in1 hr
  refine PySem.W.len_K hF I.ok.mod.kin J hs hf (wpAny_mono (own1_run (A := X.A.in1) F hb hx rfl (hr2.mono (Nat.le_succ _)) I q) (fun w s' z => ?_) fun _ _ x => x)
  obtain ⟨v, H', I', rv, i, rfl, hi, qz⟩ := z
  obtain ⟨t, rfl⟩ := (show ∃ t, w = Value.int i t from rv)
  exact ⟨hi, .int i, H', I'.tok _, ⟨_, rfl⟩, qz⟩
theorem call_boolOwn (hn : PySem.W.findIn X.K (.ref C) "__bool__" = some none) (hs : PySem.W.findIn X.K (.ref C) "__len__" = some (some (.ref f))) (hf : PySem.W.isFn X.K (.ref f) = true) (F : FnOk X.prog X.w X.K X.mg X.base CX' n f fd ps sp) (hr : Room (n + 3) X.A) (hb : Binds X.K fd ps []) (hx : Passes CX' X E) :
    CallR X (.type "bool") (fun xs H Q => rLenOwn C sp E xs H fun v H' => ∃ i : Int, v = .int i ∧ Q (.bl (i != 0)) H') := by
  intro pins s σ H xs us Q I r h
  obtain ⟨a, dx, fs, rfl, ha, q⟩ := h
  obtain ⟨u, rfl, ru⟩ := r.one
  cases (show u = Value.ref a from ru)
  obtain ⟨mA, J, _⟩ := ins_get I.hok ha
  obtain ⟨od, J, _⟩ := J.look
  have hr2 : Room (n + 1) X.A.in1.in1 := (show Room (n + 2) X.A.in1 from Room.in1 hr).in1
  refine call_bool_own (truthy_len I.kIn J hn hs hf (wpAny_mono (own1_run (A := X.A.in1.in1.in1) F hb hx rfl hr2.in1 I q) (fun w s' z => ?_) fun _ _ x => x))
  obtain ⟨v, H', I', rv, i, rfl, hi, i', e, qz⟩ := z
  cases e
  obtain ⟨t, rfl⟩ := (show ∃ t, w = Value.int i t from rv)
  exact ⟨i, t, rfl, hi, .bl (i != 0), H', I'.tok _, rfl, qz⟩
end

/-! ### on data: a def of the instance alone, its answer taken by g -/
def dOwn1 (ct : Ct) (cid : Nat) (g : W → (W → Prop) → Prop) (d : DE) : DE := fun st k x => d st (fun r st1 => isIns cid st1 r ∧ match argT st1 [r] with
  | some ts => ct ts (fun t ts' => match t with
    | .fz w => g w fun w' => k (.w w') (setA st1 [r] ts')
    | _ => False) (fun _ _ => False)
  | none => False) x
def gStr : W → (W → Prop) → Prop := fun w k => match w with
  | .str z => k (.str z)
  | _ => False
def gLen : W → (W → Prop) → Prop := fun w k => match w with
  | .int i => (0 ≤ i ∧ i < 2 ^ 63) ∧ k (.int i)
  | _ => False
def gBool : W → (W → Prop) → Prop := fun w k => match w with
  | .int i => (0 ≤ i ∧ i < 2 ^ 63) ∧ k (.bl (i != 0))
  | _ => False
section
variable {X : Cx} {Z : Zx} {E : XS} {CX' : CXT} {e : Expr} {dd : DE} {pos p : Pos} {c : Ct} {n cid : Nat} {f C : Addr} {fd : FuncData} {x : Str}
theorem own1_core {g : W → (W → Prop) → Prop} {σ : L2.St} {H : Hp} {Q : VK} (P : VK) (hg : ∀ (w : W) (k : W → Prop) (H0 : Hp) (v : V) (H' : Hp), Rep X.K Z H0 v w → g w k → (∀ (w' : W) (v' : V), k w' → Rep X.K Z H0 v' w' → Q v' H') → P v H')
    (q : tE X.K Z E (dOwn1 c cid g dd) σ H Q) : tE X.K Z E dd σ H fun v H1 => ∃ a dx fs, [v] = [.ref a] ∧ H1 a = some (.ins (Z.cls cid) dx fs) ∧ spOf X.K Z c [.ref a] H1 P E0 := by
  obtain ⟨H0, F, G, pv, st, k, kx, wd, ss, hd, hk, hx⟩ := q
  refine tE_seq wd ss hx hd fun H1 G1 H1' st1 v r e1 wd1 ss1 rr k1 => ?_
  obtain ⟨hi, k1⟩ := k1
  obtain ⟨a, dx, fs, n', ev, ha, hn⟩ := isIns_at wd1 ss1 rr hi
  subst ev
  refine ⟨a, dx, fs, rfl, ha, ?_⟩
  cases q : argT st1 [r] with
  | none => rw [q] at k1; exact k1.elim
  | some ts =>
    rw [q] at k1
    have := call_ok (dvs := []) (dws := []) (c := c) (vs := [.ref a]) (rs := [r]) (Q := P) (E := E0s) (kx := fun _ _ => False) (k := fun t st' => match t with
      | .fz w => g w fun w' => k (.w w') st'
      | _ => False) wd1 ss1 (.cons rr .nil) (fun _ => .nil) (by cases r <;> rfl) q (by rw [List.map_nil, List.append_nil]; exact k1) (fun H2 Gv G2 H2' st2 v2 t e2 wd2 rt ss2 k2 => ?_) hx.nox
    · rwa [List.append_nil] at this
    · cases rt with
      | fz rv => exact hg _ _ H2 v2 H2' rv k2 fun w' v' kw rw' => hk _ _ _ _ _ _ (e1.trans e2) wd2 ss2 (.w rw') kw
      | _ => exact k2.elim
theorem hg_str {H : Hp} {Q : VK} : ∀ (w : W) (k : W → Prop) (H0 : Hp) (v : V) (H' : Hp), Rep X.K Z H0 v w → gStr w k → (∀ (w' : W) (v' : V), k w' → Rep X.K Z H0 v' w' → Q v' H') → ∃ z, v = .str z ∧ Q (.str z) H' := by
  intro w k H0 v H' r hw hq
  cases r <;> first | exact hw.elim | exact ⟨_, rfl, hq _ _ hw .str⟩
theorem pd_strOwn (hC : Z.cls cid = C) (hs : PySem.W.findIn X.K (.ref C) "__str__" = some (some (.ref f))) (hf : PySem.W.isFn X.K (.ref f) = true) (F : FnOk X.prog X.w X.K X.mg X.base CX' n f fd ["self"] (spOf X.K Z c)) (hr : Room (n + 2) X.A) (hb : Binds X.K fd ["self"] []) (hx : Passes CX' X E0)
    (hg : Gl X "str") (hm : X.mg "str" = none) (he : PD X Z E e dd) (hs1 : starEach [e] X.env = (false, eval e X.env) :: starEach [] X.env := by rfl) (hpl : (backTo pos (starEach [] X.env)).any (·.1) = false := by rfl) :
    PD X Z E (.Call (.Name "str" p) [e] [] pos) (dOwn1 c cid gStr dd) := by
  subst hC
  exact pe_weak (pe_callTy (call_strOwn hs hf F hr hb hx) hg hm (by decide +kernel) (pa_cons he pa_nil hs1) (by decide) (by decide) hs1 hpl) fun σ H Q q => own1_core _ (hg_str (H := H)) q
theorem pd_reprOwn (hC : Z.cls cid = C) (hs : PySem.W.findIn X.K (.ref C) "__repr__" = some (some (.ref f))) (hf : PySem.W.isFn X.K (.ref f) = true) (F : FnOk X.prog X.w X.K X.mg X.base CX' n f fd ["self"] (spOf X.K Z c)) (hr : Room (n + 2) X.A) (hb : Binds X.K fd ["self"] []) (hx : Passes CX' X E0)
    (hg : Gl X "repr") (hm : X.mg "repr" = none) (he : PD X Z E e dd) (hs1 : starEach [e] X.env = (false, eval e X.env) :: starEach [] X.env := by rfl) (hpl : (backTo pos (starEach [] X.env)).any (·.1) = false := by rfl) :
    PD X Z E (.Call (.Name "repr" p) [e] [] pos) (dOwn1 c cid gStr dd) := by
  subst hC
  exact pe_weak (pe_callB (call_reprOwn hs hf F hr hb hx) hg hm (by decide +kernel) (pa_cons he pa_nil hs1) (by decide) (by decide) hs1 hpl) fun σ H Q q => own1_core _ (hg_str (H := H)) q
theorem pd_lenOwn (hC : Z.cls cid = C) (hs : PySem.W.findIn X.K (.ref C) "__len__" = some (some (.ref f))) (hf : PySem.W.isFn X.K (.ref f) = true) (F : FnOk X.prog X.w X.K X.mg X.base CX' n f fd ["self"] (spOf X.K Z c)) (hr : Room (n + 2) X.A) (hb : Binds X.K fd ["self"] []) (hx : Passes CX' X E0)
    (hg : Gl X "len") (hm : X.mg "len" = none) (he : PD X Z E e dd) (hs1 : starEach [e] X.env = (false, eval e X.env) :: starEach [] X.env := by rfl) (hpl : (backTo pos (starEach [] X.env)).any (·.1) = false := by rfl) :
    PD X Z E (.Call (.Name "len" p) [e] [] pos) (dOwn1 c cid gLen dd) := by
  subst hC
  refine pe_weak (pe_callB (call_lenOwn hs hf F hr hb hx) hg hm (by decide +kernel) (pa_cons he pa_nil hs1) (by decide) (by decide) hs1 hpl) fun σ H Q q => own1_core _ (fun w k H0 v H' r hw hq => ?_) q
  cases r <;> first | exact hw.elim | exact ⟨_, rfl, hw.1, hq _ _ hw.2 .int⟩
theorem pd_boolOwn (hC : Z.cls cid = C) (hn : PySem.W.findIn X.K (.ref C) "__bool__" = some none) (hs : PySem.W.findIn X.K (.ref C) "__len__" = some (some (.ref f))) (hf : PySem.W.isFn X.K (.ref f) = true) (F : FnOk X.prog X.w X.K X.mg X.base CX' n f fd ["self"] (spOf X.K Z c)) (hr : Room (n + 3) X.A) (hb : Binds X.K fd ["self"] []) (hx : Passes CX' X E0)
    (hg : Gl X "bool") (hm : X.mg "bool" = none) (he : PD X Z E e dd) (hs1 : starEach [e] X.env = (false, eval e X.env) :: starEach [] X.env := by rfl) (hpl : (backTo pos (starEach [] X.env)).any (·.1) = false := by rfl) :
    PD X Z E (.Call (.Name "bool" p) [e] [] pos) (dOwn1 c cid gBool dd) := by
  subst hC
  refine pe_weak (pe_callTy (call_boolOwn hn hs hf F hr hb hx) hg hm (by decide +kernel) (pa_cons he pa_nil hs1) (by decide) (by decide) hs1 hpl) fun σ H Q q => own1_core _ (fun w k H0 v H' r hw hq => ?_) q
  cases r <;> first | exact hw.elim | exact ⟨_, rfl, hw.1, _, rfl, hq _ _ hw.2 .bl⟩
end
end Y
namespace Y
open PySem L2
open PySem.Spec PyProof.Rows
open Evl (Ex)

/-! ### texts -/
def oStr : O1 := fun a k => match a with
  | .int i => i.natAbs.log2 < 1920 ∧ k (.str (toString i))
  | .str s => k (.str s)
  | _ => False
/-- str(x) of a number, a text -/
def cStr : OC := fun ws k => match ws with
  | [w] => oStr w k
  | _ => False
def cRepr : OC := fun ws k => match ws with
  | [.int i] => i.natAbs.log2 < 1920 ∧ k (.str (toString i))
  | _ => False
section
variable {K : PySem.W.Frag} {Z : Zx}
def rStr1 : List V → Hp → VK → Prop := fun xs H Q => (∃ i, xs = [.int i] ∧ i.natAbs.log2 < 1920 ∧ Q (.str (toString i)) H) ∨ ∃ a, xs = [.str a] ∧ Q (.str a) H
theorem call_str1 {X : Cx} : CallR X (.type "str") rStr1 := by
  intro pins s σ H xs us Q I r h
  rcases h with h | h
  · exact call_str_int pins s σ H xs us Q I r h
  · exact SkE.call_str_str pins s σ H xs us Q I r h
theorem RepPs.one {H0 H : Hp} {vs : List V} {w : W} (h : RepPs K Z H0 H vs [w]) : ∃ v, vs = [v] ∧ RepP K Z H0 H v w := by
  cases h with
  | cons h t => cases t; exact ⟨_, rfl, h⟩
theorem cd_str : CallD K Z rStr1 cStr := by
  intro H0 H vs ws k Q e r c f
  unfold cStr at c
  split at c
  · rename_i w
    obtain ⟨v, rfl, rv⟩ := r.one
    unfold oStr at c
    split at c
    · cases rv with | fz h => cases h; exact .inl ⟨_, rfl, c.1, f.same e .str c.2⟩
    · cases rv with | fz h => cases h; exact .inr ⟨_, rfl, f.same e .str c⟩
    · exact c.elim
  · exact c.elim
theorem cd_repr : CallD K Z (fun xs H Q => ∃ i, xs = [.int i] ∧ i.natAbs.log2 < 1920 ∧ Q (.str (toString i)) H) cRepr := by
  intro H0 H vs ws k Q e r c f
  unfold cRepr at c
  split at c
  · obtain ⟨v, rfl, rv⟩ := r.one
    cases rv with | fz h => cases h; exact ⟨_, rfl, c.1, f.same e .str c.2⟩
  · exact c.elim
end
/-- {x} of an f-string -/
def dFmt (d : DE) : DE := fun st k x => d st (fun r st1 => match r with
  | .w (.str s) => s.length ≤ sizeLine ∧ k (.w (.str s)) st1
  | .w (.int i) => i.natAbs.log2 < 1920 ∧ k (.w (.str (toString i))) st1
  | _ => False) x
/-- f'..': the parts one behind the other -/
def dJn : List DE → Str → DE
  | [], acc => fun st k _ => k (.w (.str acc)) st
  | d :: ds, acc => fun st k x => d st (fun r st1 => match r with
    | .w (.str s) => (acc ++ s).length ≤ sizeLine ∧ dJn ds (acc ++ s) st1 k x
    | _ => False) x
section
variable {X : Cx} {Z : Zx} {E : XS} {e : Expr} {es : List Expr} {dd : DE} {ds : List DE} {pos p : Pos}
theorem pd_fmt (he : PD X Z E e dd) : PD X Z E (.FormattedValue e (-1) none pos) (dFmt dd) := by
  refine pe_weak (pe_fmt he) fun σ H Q q => ?_
  obtain ⟨H0, F, G, pv, st, k, kx, wd, ss, hd, hk, hx⟩ := q
  refine tE_seq wd ss hx hd fun H1 G1 H1' st1 v r e1 wd1 ss1 rr k1 => ?_
  split at k1
  · cases rr with | w rv => cases rv; exact .inl ⟨_, rfl, k1.1, hk _ _ _ _ _ _ e1 wd1 ss1 (.w .str) k1.2⟩
  · cases rr with | w rv => cases rv; exact .inr ⟨_, rfl, k1.1, hk _ _ _ _ _ _ e1 wd1 ss1 (.w .str) k1.2⟩
  · exact k1.elim
inductive PJD (X : Cx) (Z : Zx) (E : XS) : List Expr → List DE → Prop where
  | nil : PJD X Z E [] []
  | cons {e : Expr} {d : DE} {es : List Expr} {ds : List DE} (h : PD X Z E e d) (r : PJD X Z E es ds) : PJD X Z E (e :: es) (d :: ds)
theorem PJD.pj (h : PJD X Z E es ds) : PJ X es (ds.map fun d => tE X.K Z E d) := by
  induction h with
  | nil => exact .nil
  | cons h r ih => exact .cons h ih
theorem js_ok {K : PySem.W.Frag} {σ : L2.St} {F : Hp} {pv : List V} {kx : KX} {Q : VK} : ∀ (ds : List DE) {acc : Str} {H0 H : Hp} {G : Fp} {st : S} {k : R → S → Prop}, Wd H0 F G H → Sts K Z H0 pv σ st G → AccXe K Z E F pv σ H0 kx → dJn ds acc st k kx → Acc K Z F pv σ H0 k Q →
    tJs (ds.map fun d => tE K Z E d) acc σ H fun out H1 => Q (.str out) H1
  | [], acc, H0, H, G, st, k, wd, ss, hx, hd, hk => hk _ _ _ _ _ _ (Ex.refl _) wd ss (.w .str) hd
  | d :: ds, acc, H0, H, G, st, k, wd, ss, hx, hd, hk => by
    refine tE_seq wd ss hx hd fun H1 G1 H1' st1 v r e1 wd1 ss1 rr k1 => ?_
    split at k1
    · cases rr with
      | w rv =>
        cases rv
        exact ⟨_, rfl, k1.1, js_ok ds wd1 ss1 (hx.up e1) k1.2 (hk.up e1)⟩
    · exact k1.elim
theorem pd_joined {e1 e2 : Expr} (h : PJD X Z E (e1 :: e2 :: es) ds) : PD X Z E (.JoinedStr (e1 :: e2 :: es) pos) (dJn ds Str.empty) := by
  refine pe_weak (pe_joined h.pj) fun σ H Q q => ?_
  obtain ⟨H0, F, G, pv, st, k, kx, wd, ss, hd, hk, hx⟩ := q
  exact js_ok ds wd ss hx hd hk
theorem pd_joined1 (h : PD X Z E e dd) : PD X Z E (.JoinedStr [e] pos) dd := pe_joined1 h
end
end Y
namespace QE
open PySem PySem.SeqAt
open AutoSeq1 (wpAny_loadPart')
open MeetsSeq MeetsSeq2 MeetsSeq3 SeqRoads2
open GQ (FinOf call_here eqBool_refG)
section
variable {prog : Program} {w : World} {A : Around} {R : Result → Shared → Prop}
/-- at each turn the list is read anew: N items; the i-th is x or not, as e says; P i: whether the turn is reached -/
def ListX (prog : Program) (w : World) (A : Around) (E : Value → Shared → Prop) (l : Addr) (x : Value) (N : Nat) (e : Nat → Bool) (P : Nat → Prop) (I : Shared → Prop) : Prop :=
  ∀ i s, I s → ∃ (items : Array Value) (n : Nat), s.heap.get? l = some { cls := .type "list", data := .seq items n } ∧ items.size = N ∧
    (P i → ∀ (h1 : i < items.size), wpAny (model prog w) A.in1 (eqBool items[i] x) (fun r s' => r = e i ∧ I s') E s)
theorem any_of {N i : Nat} {e : Nat → Bool} (hi : i < N) (h : e i = true) : (List.range N).any e = true := List.any_eq_true.mpr ⟨i, List.mem_range.mpr hi, h⟩
theorem any_no {N : Nat} {e : Nat → Bool} (h : ∀ j, j < N → e j = false) : (List.range N).any e = false := by
  cases q : (List.range N).any e with
  | false => rfl
  | true =>
    obtain ⟨j, hj, h2⟩ := List.any_eq_true.mp q
    rw [h j (List.mem_range.mp hj)] at h2; cases h2
theorem contains_loopJ (l : Addr) (x : Value) (N : Nat) (e : Nat → Bool) (I : Shared → Prop) (hl : ListX prog w A (fun e s' => R (.error e) s') l x N e (fun i => ∀ j, j < i → e j = false) I)
    (fin : ∀ s, I s → R (.ok (.ret (.bool ((List.range N).any e)))) s) (k : Nat) :
    ∀ i : Nat, N - i = k → i ≤ N → (∀ j, j < i → e j = false) → ∀ s, I s →
      wpAny (model prog w) A.in1 (Builtin.«list.__contains__.loop» ⟨[.ref l, x, rawInt i], []⟩) (FinOf prog w A R) (fun e s' => R (.error e) s') s := by
  induction k with
  | zero =>
    intro i hk hi hp s h
    obtain ⟨items, n, hl1, hs1, _⟩ := hl i _ h
    have hi' : i = N := by omega
    have hR := fin s h
    rw [any_no (hi' ▸ hp)] at hR
    obtain ⟨hp, g, d, tk, os⟩ := s
    wp_walk using wpAny_loadPart' hl1
    have hi1 : items[((i : Nat) : Int).toNat]? = none := by simp; omega
    rw [hi1]
    wp_walk
    exact hR
  | succ k ih =>
    intro i hk hi hp s h
    obtain ⟨items, n, hl1, hs1, turn⟩ := hl i _ h
    have hlt : i < items.size := by omega
    have ht := turn hp hlt
    obtain ⟨hp0, g, d, tk, os⟩ := s
    wp_walk using wpAny_loadPart' hl1
    have hi1 : items[((i : Nat) : Int).toNat]? = some items[i] := by simp [hlt]
    have hc : ((i : Int) + 1) = ((i + 1 : Nat) : Int) := by omega
    rw [hi1]
    refine wpAny_bind (wpAny_mono ht (fun r s2 h2 => ?_) fun _ _ x => x)
    obtain ⟨hr, h2⟩ := h2
    cases hb' : e i with
    | true =>
      rw [hb'] at hr
      subst hr
      have hR := fin s2 h2
      rw [any_of (by omega) hb'] at hR
      obtain ⟨hp2, g2, d2, tk2, os2⟩ := s2
      wp_walk
      exact hR
    | false =>
      rw [hb'] at hr
      subst hr
      have hrec := ih (i + 1) (by omega) (by omega) (fun j hj => by
        rcases Nat.lt_or_ge j i with q | q
        · exact hp j q
        · rw [show j = i by omega]; exact hb') s2 h2
      obtain ⟨hp2, g2, d2, tk2, os2⟩ := s2
      wp_walk
      rw [hc]
      exact ⟨plainId_quiet plain_contains_loop _, codeAny_builtin entry_contains_loop (by
        rw [Around.under_plainId plain_contains_loop _]
        exact hrec)⟩
theorem list_containsJ (l : Addr) (x : Value) (N : Nat) (e : Nat → Bool) (I : Shared → Prop) (hl : ListX prog w A (fun e s' => R (.error e) s') l x N e (fun i => ∀ j, j < i → e j = false) I)
    (fin : ∀ s, I s → R (.ok (.ret (.bool ((List.range N).any e)))) s) {s : Shared} (h : I s) :
    wpAny (model prog w) A.in1 (Builtin.«list.__contains__» ⟨[.ref l, x], []⟩) (FinOf prog w A R) (fun e s' => R (.error e) s') s := by
  obtain ⟨items, n, hl1, hs1, _⟩ := hl 0 _ h
  have hrec := contains_loopJ (A := A) (R := R) l x N e I hl fin _ 0 rfl (Nat.zero_le _) (fun j hj => absurd hj (Nat.not_lt_zero j)) s h
  obtain ⟨hp, g, d, tk, os⟩ := s
  wp_walk using wpAny_loadPart' hl1
  exact ⟨plainId_quiet plain_contains_loop _, codeAny_builtin entry_contains_loop (by
    rw [Around.under_plainId plain_contains_loop _]
    exact hrec)⟩
theorem count_loopJ (l : Addr) (x : Value) (N : Nat) (e : Nat → Bool) (I : Shared → Prop) (hl : ListX prog w A (fun e s' => R (.error e) s') l x N e (fun _ => True) I)
    (fin : ∀ s, I s → R (.ok (.ret (.int ((List.range N).countP e : Nat) s.toks))) { s with toks := s.toks + 1 }) (k : Nat) :
    ∀ (i : Nat) (found : Int), N - i = k → i ≤ N → found = ((List.range i).countP e : Nat) → ∀ s, I s →
      wpAny (model prog w) A.in1 (Builtin.«list.count.loop» ⟨[.ref l, x, rawInt i, rawInt found], []⟩) (FinOf prog w A R) (fun e s' => R (.error e) s') s := by
  induction k with
  | zero =>
    intro i found hk hi hf s h
    obtain ⟨items, n, hl1, hs1, _⟩ := hl i _ h
    have hi' : i = N := by omega
    have hR := fin s h
    subst hi'
    rw [← hf] at hR
    obtain ⟨hp, g, d, tk, os⟩ := s
    wp_walk using wpAny_loadPart' hl1
    have hi1 : items[((i : Nat) : Int).toNat]? = none := by simp; omega
    rw [hi1]
    wp_walk
    exact hR
  | succ k ih =>
    intro i found hk hi hf s h
    obtain ⟨items, n, hl1, hs1, turn⟩ := hl i _ h
    have hlt : i < items.size := by omega
    have ht := turn trivial hlt
    obtain ⟨hp0, g, d, tk, os⟩ := s
    wp_walk using wpAny_loadPart' hl1
    have hi1 : items[((i : Nat) : Int).toNat]? = some items[i] := by simp [hlt]
    have hc : ((i : Int) + 1) = ((i + 1 : Nat) : Int) := by omega
    rw [hi1]
    refine wpAny_bind (wpAny_mono ht (fun r s2 h2 => ?_) fun _ _ x => x)
    obtain ⟨hr, h2⟩ := h2
    subst hr
    have hrec := fun f hf => ih (i + 1) f (by omega) (by omega) hf s2 h2
    have hcn : (List.range (i + 1)).countP e = (List.range i).countP e + (if e i = true then 1 else 0) := by
      rw [List.range_succ, List.countP_append, List.countP_singleton]
    obtain ⟨hp2, g2, d2, tk2, os2⟩ := s2
    wp_walk
    rw [hc]
    refine ⟨plainId_quiet plain_count_loop _, codeAny_builtin entry_count_loop (by
      rw [Around.under_plainId plain_count_loop _]
      refine hrec _ ?_
      rw [hcn, hf]
      cases e i <;> simp)⟩
theorem list_countJ (l : Addr) (x : Value) (N : Nat) (e : Nat → Bool) (I : Shared → Prop) (hl : ListX prog w A (fun e s' => R (.error e) s') l x N e (fun _ => True) I)
    (fin : ∀ s, I s → R (.ok (.ret (.int ((List.range N).countP e : Nat) s.toks))) { s with toks := s.toks + 1 }) {s : Shared} (h : I s) :
    wpAny (model prog w) A.in1 (Builtin.«list.count» ⟨[.ref l, x], []⟩) (FinOf prog w A R) (fun e s' => R (.error e) s') s := by
  obtain ⟨items, n, hl1, hs1, _⟩ := hl 0 _ h
  have hrec := count_loopJ (A := A) (R := R) l x N e I hl fin _ 0 0 rfl (Nat.zero_le _) rfl s h
  obtain ⟨hp, g, d, tk, os⟩ := s
  wp_walk using wpAny_loadPart' hl1
  exact ⟨plainId_quiet plain_count_loop _, codeAny_builtin entry_count_loop (by
    rw [Around.under_plainId plain_count_loop _]
    exact hrec)⟩
end
section
variable {prog : Program} {w : World} {A : Around} {E : Value → Shared → Prop} {s : Shared}
theorem in_list {l : Addr} {x : Value} {N : Nat} {e : Nat → Bool} {Q : Bool → Shared → Prop} (I : Shared → Prop) (hl : ListX prog w A E l x N e (fun i => ∀ j, j < i → e j = false) I) (fin : ∀ s, I s → Q ((List.range N).any e) s) (h : I s) :
    wpAny (model prog w) A (contains (.ref l) x) Q E s := by
  obtain ⟨items, n, hl1, _, _⟩ := hl 0 _ h
  refine wpAny_contains_slot (c := .ref l) (T := "list") ⟨_, hl1, rfl⟩ F.slot_list_contains (wpAny_mono (call_here (Q := fun v s' => ∃ b, v = .bool b ∧ Q b s') F.slot_list_contains ⟨_, hl1, rfl⟩ F.entry_list_contains (F.args_list_contains_2 _ _) ?_) (fun v s' hv => ?_) fun _ _ e => e)
  · exact list_containsJ (R := wants (fun v s' => ∃ b, v = .bool b ∧ Q b s') E) l x N e I hl (fun s' q => ⟨_, rfl, fin s' q⟩) h
  · obtain ⟨b, rfl, hq⟩ := hv
    exact wpAny_truthy_bool hq
theorem count_list {l : Addr} {x : Value} {N : Nat} {e : Nat → Bool} {Q : Value → Shared → Prop} (I : Shared → Prop) (hl : ListX prog w A E l x N e (fun _ => True) I) (fin : ∀ s, I s → Q (.int ((List.range N).countP e : Nat) s.toks) { s with toks := s.toks + 1 }) (h : I s) :
    wpAny (model prog w) A (call (.builtin "list.count") [.ref l, x]) Q E s := by
  obtain ⟨items, n, hl1, _, _⟩ := hl 0 _ h
  exact call_here (Q := Q) F.slot_list_count ⟨_, hl1, rfl⟩ F.entry_list_count (F.args_list_count_2 _ _) (list_countJ (R := wants Q E) l x N e I hl (fun s' q => fin s' q) h)
end
end QE
namespace Y
open PySem L2
open PySem.Spec PyProof.Rows
open Evl (Ex)

/-! ### x in .., x not in .. -/
def anyW (f : W → Option Bool) : List W → Option Bool
  | [] => some false
  | y :: ys => match f y with
    | some true => some true
    | some false => anyW f ys
    | none => none
def countW (f : W → Option Bool) : List W → Option Nat
  | [] => some 0
  | y :: ys => match f y, countW f ys with
    | some b, some n => some (n + if b = true then 1 else 0)
    | _, _ => none
/-- in a list: item by item; in a tuple of flat items; a text in a text; a key in a dict -/
def inW (a b : W) : Option Bool := match b with
  | .lst ys => anyW (fun y => eqW 6 y a) ys
  | .tup ys => if a.at.isSome = true ∧ (ys.all fun y => y.at.isSome) = true then anyW (fun y => eqA y a) ys else none
  | .str z => (match a with
    | .str t => some (!(Builtin.Str.occurrences z t 0 z.length 1).isEmpty)
    | _ => none)
  | .dK kvs => a.key.map fun key => (lk kvs key).isSome
  | .dF kvs => a.key.map fun key => (lk kvs key).isSome
  | _ => none
def oInX (ng : Bool) : O2 := fun a b k => ∃ r, inW a b = some r ∧ k (.bl (nq ng r))
def itAt (f : W → Option Bool) (ys : List W) (i : Nat) : Bool := match ys[i]? with
  | some y => (f y).getD false
  | none => false
theorem anyW_at {f : W → Option Bool} : ∀ (ys : List W) (b : Bool), anyW f ys = some b → (∀ i y, ys[i]? = some y → (∀ j, j < i → itAt f ys j = false) → f y = some (itAt f ys i)) ∧ b = (List.range ys.length).any (itAt f ys)
  | [], b, e => by cases e; exact ⟨fun i y h => by simp at h, rfl⟩
  | y :: ys, b, e => by
    unfold anyW at e
    have e0 : itAt f (y :: ys) 0 = (f y).getD false := rfl
    have rg : (List.range (ys.length + 1)).any (itAt f (y :: ys)) = (itAt f (y :: ys) 0 || (List.range ys.length).any (itAt f ys)) := by
      rw [List.range_succ_eq_map, List.any_cons, List.any_map]
      rfl
    rw [List.length_cons, rg, e0]
    cases q : f y with
    | none => rw [q] at e; cases e
    | some z =>
      rw [q] at e
      cases z with
      | true =>
        cases e
        refine ⟨fun i y' h1 hp => ?_, rfl⟩
        cases i with
        | zero => simp at h1; subst h1; rw [e0, q]; rfl
        | succ i => have := hp 0 (Nat.succ_pos _); rw [e0, q] at this; cases this
      | false =>
        obtain ⟨h3, h4⟩ := anyW_at ys b e
        refine ⟨fun i y' h1 hp => ?_, ?_⟩
        · cases i with
          | zero => simp at h1; subst h1; rw [e0, q]; rfl
          | succ i => exact h3 i y' (by simpa using h1) fun j hj => hp (j + 1) (by omega)
        · rw [h4]; simp
theorem countW_at {f : W → Option Bool} : ∀ (ys : List W) (n : Nat), countW f ys = some n → (∀ i y, ys[i]? = some y → f y = some (itAt f ys i)) ∧ n = (List.range ys.length).countP (itAt f ys)
  | [], n, e => by cases e; exact ⟨fun i y h => by simp at h, rfl⟩
  | y :: ys, n, e => by
    unfold countW at e
    have e0 : itAt f (y :: ys) 0 = (f y).getD false := rfl
    have rg : (List.range (ys.length + 1)).countP (itAt f (y :: ys)) = (List.range ys.length).countP (itAt f ys) + (if itAt f (y :: ys) 0 = true then 1 else 0) := by
      rw [List.range_succ_eq_map, List.countP_cons, List.countP_map]
      rfl
    cases q : f y with
    | none => rw [q] at e; cases e
    | some b =>
      cases q2 : countW f ys with
      | none => rw [q, q2] at e; cases e
      | some m =>
        rw [q, q2] at e
        cases e
        obtain ⟨h3, h4⟩ := countW_at ys m q2
        refine ⟨fun i y' h1 => ?_, ?_⟩
        · cases i with
          | zero => simp at h1; subst h1; rw [e0, q]; rfl
          | succ i => exact h3 i y' (by simpa using h1)
        · rw [List.length_cons, rg, e0, q, h4]; rfl
section
variable {X : Cx} {Z : Zx} {n m kq : Nat} {ng : Bool} {CX' : CXT} {E : XS}
theorem listX {P : Nat → Prop} {f : W → Option Bool} (h : EqG2 X m (DqW X.K Z n)) {A : Around} {pins : List (Addr × Obj)} {σ : L2.St} {H : Hp} {a : Addr} {xs : List V} {ys : List W} {v : V} {u : Value} {w : W} (sb : Sub X (m + 1) A)
    (ha : H a = some (.lst xs)) (rs : Reps X.K Z H xs ys) (ru : RelV v u) (rw' : Rep X.K Z H v w) (hf : ∀ i y, ys[i]? = some y → P i → eqW n y w = some (itAt f ys i)) :
    QE.ListX X.prog X.w A X.xe a u xs.length (itAt f ys) P (fun s' => LoopI X pins σ H s') := fun i s' q => by
  obtain ⟨H1, I1, e1⟩ := id q
  obtain ⟨z, its, k, rv, e⟩ := I1.hok a _ (e1 _ _ ha)
  refine ⟨its.toArray, k, e, by rw [List.size_toArray, ← rv.length], fun hp h1 => ?_⟩
  have g1 : its[i]? = some its.toArray[i] := by
    have h1' : i < its.length := by simpa using h1
    rw [List.getElem?_eq_getElem h1'] <;> simp
  have k1 : i < xs.length := by rw [rv.length]; simpa using h1
  obtain ⟨u', hu, ru'⟩ := rv.get (List.getElem?_eq_getElem k1)
  rw [g1] at hu
  rw [Option.some.inj hu]
  obtain ⟨y, hy, ry⟩ := rs.getV (List.getElem?_eq_getElem k1)
  refine wpAny_mono (h A.in1 pins s' σ H1 _ _ u' u _ sb.in1 I1 ru' ru ⟨y, w, ry.mono e1, rw'.mono e1, hf i y hy hp⟩) (fun r s2 q => ?_) fun _ _ x => x
  obtain ⟨hr, H2, I2, e2⟩ := q
  exact ⟨hr, H2, I2, e1.trans e2⟩
def rInX (K : PySem.W.Frag) (Z : Zx) (ng : Bool) : R2 := fun x y H Q => ∃ a b r, Rep K Z H x a ∧ Rep K Z H y b ∧ inW a b = some r ∧ ∀ H', Ex H H' → Q (.bl (nq ng r)) H'
theorem contains_of {prog : Program} {w : World} {A : Around} {E : Value → Shared → Prop} {s : Shared} {x c : Value} {ng b : Bool} {P : Shared → Prop} (h : wpAny (model prog w) A (contains c x) (fun r s' => r = b ∧ P s') E s) :
    wpAny (model prog w) A (compareOp (if ng then .NotIn else .In) x c) (fun v s' => v = .bool (nq ng b) ∧ P s') E s := by
  cases ng with
  | false =>
    show wpAny (model prog w) A ((do return .bool (← contains c x)) : Sem Value) _ E s
    exact wpAny_bind (wpAny_mono h (fun r s' hv => by obtain ⟨rfl, q⟩ := hv; exact wpAny_pure ⟨rfl, q⟩) fun _ _ e => e)
  | true =>
    show wpAny (model prog w) A ((do return .bool (!(← contains c x))) : Sem Value) _ E s
    exact wpAny_bind (wpAny_mono h (fun r s' hv => by obtain ⟨rfl, q⟩ := hv; exact wpAny_pure ⟨rfl, q⟩) fun _ _ e => e)
theorem inV_any {K : PySem.W.Frag} {H : Hp} {x : V} {a : W} {z : V} (hx : Rep K Z H x a) (ha : a.at = some z) : ∀ {xs : List V} {ys : List W} {r : Bool}, Reps K Z H xs ys → (ys.all fun y => y.at.isSome) = true → anyW (fun y => eqA y a) ys = some r → xs.all flatV = true ∧ inV x xs = r
  | _, _, _, .nil, _, e => by cases e; exact ⟨rfl, rfl⟩
  | _, _, r, .cons (v := v) (w := w) (vs := vs) (ws := ws) h t, hf, e => by
    obtain ⟨f1, f2⟩ := He.ba (show (w.at.isSome && ws.all fun y => y.at.isSome) = true from hf)
    obtain ⟨y, hy⟩ := Option.isSome_iff_exists.mp f1
    have ev := h.at_eq hy
    have ex := hx.at_eq ha
    unfold anyW at e
    have e1 : eqA w a = some (eqV v x) := by unfold eqA; rw [hy, ha, ev, ex]
    have fv : flatV v = true := by rw [ev]; exact at_flat hy
    rw [e1] at e
    have base : ∀ (ws : List W) (vs : List V), Reps K Z H vs ws → (ws.all fun y => y.at.isSome) = true → vs.all flatV = true := by
      intro ws
      induction ws with
      | nil => intro vs r _; cases r; rfl
      | cons w ws ih =>
        intro vs r hf
        cases r with
        | cons h t =>
          obtain ⟨f1, f2⟩ := He.ba (show (w.at.isSome && ws.all fun y => y.at.isSome) = true from hf)
          obtain ⟨y, hy⟩ := Option.isSome_iff_exists.mp f1
          rw [List.all_cons, ih _ t f2, h.at_eq hy, at_flat hy]; rfl
    have all : (v :: vs).all flatV = true := by rw [List.all_cons, fv, base ws vs t f2]; rfl
    refine ⟨all, ?_⟩
    unfold inV
    rw [List.any_cons]
    cases q : eqV v x with
    | true => rw [q] at e; cases e; rfl
    | false =>
      rw [q] at e
      obtain ⟨_, h2⟩ := inV_any hx ha t f2 e
      unfold inV at h2
      rw [Bool.false_or]; exact h2
theorem op_inX {CX' : CXT} {E : XK} (ow : EqOwn X.prog X.w X.K X.mg X.base CX' Z kq) (hp : Passes CX' X E) (hr : Room (kq + 8) X.A) : OpR X (compareOp (if ng then .NotIn else .In)) (rInX X.K Z ng) := by
  intro pins s σ H x y v u Q I rx ry h
  obtain ⟨a, b, r, ra, rb, e, q⟩ := h
  have hu : X.A.units + 1 < cLine := by have := hr.un; omega
  have fin : ∀ {P : Value → Shared → Prop}, (∀ s', LoopI X pins σ H s' → P (.bool (nq ng r)) s') → ∀ w' s', w' = .bool (nq ng r) ∧ LoopI X pins σ H s' → P w' s' := fun h w' s' hh => by obtain ⟨rfl, l⟩ := hh; exact h s' l
  have done : ∀ s', LoopI X pins σ H s' → EP X pins σ Q (.bool (nq ng r)) s' := fun s' l => by
    obtain ⟨H', I', e'⟩ := l
    exact ⟨.bl (nq ng r), H', I', rfl, q H' e'⟩
  cases b with
  | lst ys =>
    cases rb with
    | lst hb rs =>
      cases ry
      obtain ⟨h1, h2⟩ := anyW_at _ _ (show anyW (fun y => eqW 6 y a) ys = some r from e)
      have sb : Sub X (6 + kq + 1 + 1) X.A := ⟨by rw [show 6 + kq + 1 + 1 = kq + 8 by omega]; exact hr, rfl⟩
      refine wpAny_mono (contains_of (ng := ng) (b := r) (P := LoopI X pins σ H) ?_) (fin done) fun _ _ x => x
      refine QE.in_list _ (listX (n := 6) (f := fun y => eqW 6 y a) (P := fun i => ∀ j, j < i → itAt (fun y => eqW 6 y a) ys j = false) (eqG2W ow hp 6) sb hb rs rx ra (fun i y hy hpi => h1 i y hy hpi)) (fun s' l => ?_) ⟨H, I, Ex.refl _⟩
      rw [rs.length]
      exact ⟨h2.symm, l⟩
  | tup ys =>
    replace e : (if a.at.isSome = true ∧ (ys.all fun y => y.at.isSome) = true then anyW (fun y => eqA y a) ys else none) = some r := e
    by_cases hf : a.at.isSome = true ∧ (ys.all fun y => y.at.isSome) = true
    · rw [if_pos hf] at e
      obtain ⟨hf0, hf⟩ := hf
      cases rb with
      | tup hb rs =>
        obtain ⟨z, hz⟩ := Option.isSome_iff_exists.mp hf0
        obtain ⟨h1, h2⟩ := inV_any ra hz rs hf e
        have fx : flatV x = true := by rw [ra.at_eq hz]; exact at_flat hz
        cases ng with
        | false => exact op_in_seq pins s σ H _ _ v u Q I rx ry ⟨_, _, rfl, .inr hb, fx, h1, by rw [h2]; exact q H (Ex.refl _)⟩
        | true => exact op_notIn_seq pins s σ H _ _ v u Q I rx ry ⟨_, _, rfl, .inr hb, fx, h1, by rw [h2]; exact q H (Ex.refl _)⟩
    · rw [if_neg hf] at e; cases e
  | str z =>
    cases a with
    | str t =>
      cases e
      cases ra; cases rb
      cases ng with
      | false => exact op_in_str pins s σ H _ _ v u Q I rx ry ⟨t, z, rfl, rfl, q H (Ex.refl _)⟩
      | true => exact op_notin_str pins s σ H _ _ v u Q I rx ry ⟨t, z, rfl, rfl, q H (Ex.refl _)⟩
    | _ => cases e
  | dK kvs =>
    obtain ⟨key, hk, rfl⟩ := Option.map_eq_some_iff.mp (show a.key.map (fun key => (lk kvs key).isSome) = some r from e)
    have ex := rep_key ra hk
    subst ex
    cases rb with
    | dK rd rk =>
      cases ry
      have hq := q H (Ex.refl _)
      rw [← isSome_lk rk] at hq
      cases ng with
      | false => exact d_in hu I (.inl ⟨_, key, rd, rfl, rfl⟩) rx fun s' I' => ⟨.bl _, H, I', rfl, hq⟩
      | true => exact d_notIn hu I (.inl ⟨_, key, rd, rfl, rfl⟩) rx fun s' I' => ⟨.bl _, H, I', rfl, hq⟩
  | dF kvs =>
    obtain ⟨key, hk, rfl⟩ := Option.map_eq_some_iff.mp (show a.key.map (fun key => (lk kvs key).isSome) = some r from e)
    have ex := rep_key ra hk
    subst ex
    cases rb with
    | dF rd rk =>
      cases ry
      have hq := q H (Ex.refl _)
      rw [← isSome_lk rk] at hq
      cases ng with
      | false => exact d_in hu I (.inl ⟨_, key, .inr ⟨_, rd⟩, rfl, rfl⟩) rx fun s' I' => ⟨.bl _, H, I', rfl, hq⟩
      | true => exact d_notIn hu I (.inl ⟨_, key, .inr ⟨_, rd⟩, rfl, rfl⟩) rx fun s' I' => ⟨.bl _, H, I', rfl, hq⟩
  | _ => cases e
theorem opd_inX {K : PySem.W.Frag} : OpD K Z (rInX K Z ng) (oInX ng) := by
  intro H0 H v1 w1 v2 w2 k Q e r1 r2 o f
  obtain ⟨r, h, q⟩ := o
  exact ⟨w1, w2, r, r1.up e, r2.up e, h, fun H' e' => f H0 H' _ _ ⟨Ex.refl _, e', e.trans e', fun a o h n => by rw [n] at h; cases h⟩ .bl q⟩
end
section
variable {X : Cx} {Z : Zx} {E : XS} {CX' : CXT} {kq : Nat} {e a b c : Expr} {da db dc : DE} {pos : Pos}
theorem pd_inX {E9 : XK} (ow : EqOwn X.prog X.w X.K X.mg X.base CX' Z kq) (hp : Passes CX' X E9) (hr : Room (kq + 8) X.A) (ha : PD X Z E a da) (hb : PD X Z E b db) (hm : behindInMarks .In b = false := by rfl) : PD X Z E (.Compare a [.In] [b] pos) (dOp (oInX false) da db) := pd_cmp (op_inX (ng := false) ow hp hr) opd_inX ha hb hm
theorem pd_notInX {E9 : XK} (ow : EqOwn X.prog X.w X.K X.mg X.base CX' Z kq) (hp : Passes CX' X E9) (hr : Room (kq + 8) X.A) (ha : PD X Z E a da) (hb : PD X Z E b db) (hm : behindInMarks .NotIn b = false := by rfl) : PD X Z E (.Compare a [.NotIn] [b] pos) (dOp (oInX true) da db) := pd_cmp (op_inX (ng := true) ow hp hr) opd_inX ha hb hm
theorem ptd_inX {E9 : XK} (ow : EqOwn X.prog X.w X.K X.mg X.base CX' Z kq) (hp : Passes CX' X E9) (hr : Room (kq + 8) X.A) (ha : PD X Z E a da) (hb : PD X Z E b db) (hm : behindInMarks .In b = false := by rfl) : PTD X Z E (.Compare a [.In] [b] pos) (dTest (dOp (oInX false) da db)) := ptd_cmp (op_inX (ng := false) ow hp hr) opd_inX ha hb hm
theorem ptd_notInX {E9 : XK} (ow : EqOwn X.prog X.w X.K X.mg X.base CX' Z kq) (hp : Passes CX' X E9) (hr : Room (kq + 8) X.A) (ha : PD X Z E a da) (hb : PD X Z E b db) (hm : behindInMarks .NotIn b = false := by rfl) : PTD X Z E (.Compare a [.NotIn] [b] pos) (dTest (dOp (oInX true) da db)) := ptd_cmp (op_inX (ng := true) ow hp hr) opd_inX ha hb hm
end
end Y
namespace Y
open PySem L2
open PySem.Spec PyProof.Rows
open Evl (Ex)

/-! ### an owned list, changed by its methods -/
def fExtend : List W → List W → (W → List W → Prop) → Prop := fun ws xs k => match ws with
  | [.lst zs] => xs.length + zs.length ≤ sizeLine ∧ k .non (xs ++ zs)
  | _ => False
def fPop : List W → List W → (W → List W → Prop) → Prop := fun ws xs k => match ws with
  | [] => ∃ w, xs[xs.length - 1]? = some w ∧ k w xs.dropLast
  | [.int i] => ∃ j w, (-(2 ^ 63) ≤ i ∧ i < 2 ^ 63) ∧ seqIndex? i xs.length = some j ∧ xs[j]? = some w ∧ k w (xs.eraseIdx j)
  | _ => False
def fInsert : List W → List W → (W → List W → Prop) → Prop := fun ws xs k => match ws with
  | [.int i, w] => (xs.length < sizeLine ∧ 0 ≤ i ∧ i < 2 ^ 63) ∧ k .non (xs.take i.toNat ++ [w] ++ xs.drop i.toNat)
  | _ => False
def fReverse : List W → List W → (W → List W → Prop) → Prop := fun ws xs k => match ws with
  | [] => k .non xs.reverse
  | _ => False
def fClear : List W → List W → (W → List W → Prop) → Prop := fun ws xs k => match ws with
  | [] => k .non []
  | _ => False
section
variable {K : PySem.W.Frag} {Z : Zx} {H0 : Hp}
theorem Reps.dropLast : ∀ {xs : List V} {ws : List W}, Reps K Z H0 xs ws → Reps K Z H0 xs.dropLast ws.dropLast
  | _, _, .nil => .nil
  | _, _, .cons h .nil => .nil
  | _, _, .cons h (.cons h2 t) => .cons h (Reps.dropLast (.cons h2 t))
theorem Reps.eraseIdx : ∀ {xs : List V} {ws : List W} (j : Nat), Reps K Z H0 xs ws → Reps K Z H0 (xs.eraseIdx j) (ws.eraseIdx j)
  | _, _, _, .nil => .nil
  | _, _, 0, .cons h t => t
  | _, _, j + 1, .cons h t => .cons h (Reps.eraseIdx j t)
theorem Reps.reverse {xs : List V} {ws : List W} (h : Reps K Z H0 xs ws) : Reps K Z H0 xs.reverse ws.reverse := by
  induction xs generalizing ws with
  | nil => cases h; exact .nil
  | cons x xs ih =>
    cases h with
    | cons h t =>
      rw [List.reverse_cons, List.reverse_cons]
      exact (ih t).append (.one h)
theorem mut_extend : MutD K Z rExtend fExtend := by
  intro H0 H p xs ws vs us k Q e hp r1 r2 h f
  unfold fExtend at h
  split at h
  · cases r2 with
    | cons r t =>
      cases t
      cases r with
      | lst hb rb => exact ⟨p, _, xs, _, rfl, rfl, hp, e _ _ hb, by rw [r1.length, rb.length]; exact h.1, f _ _ _ _ .non (r1.append rb) h.2⟩
  · exact h.elim
theorem mut_insert : MutD K Z (fun x vs H Q => ∃ (l : Addr) (xs : List V) (i : Int) (y : V), x = .ref l ∧ vs = [.int i, y] ∧ H l = some (.lst xs) ∧ xs.length < sizeLine ∧ 0 ≤ i ∧ i < 2 ^ 63 ∧ Q .non (upd H l (.lst (xs.take i.toNat ++ [y] ++ xs.drop i.toNat)))) fInsert := by
  intro H0 H p xs ws vs us k Q e hp r1 r2 h f
  unfold fInsert at h
  split at h
  · cases r2 with
    | cons r t =>
      cases t with
      | cons r' t =>
        cases t
        cases r
        exact ⟨p, xs, _, _, rfl, rfl, hp, by rw [r1.length]; exact h.1.1, h.1.2.1, h.1.2.2, f _ _ _ _ .non (((r1.take _).append (.one r')).append (r1.drop _)) h.2⟩
  · exact h.elim
theorem mut_popAt : MutD K Z rPopAt (fun us xs k => us ≠ [] ∧ fPop us xs k) := by
  intro H0 H p xs ws vs us k Q e hp r1 r2 h f
  obtain ⟨hne, h⟩ := h
  unfold fPop at h
  split at h
  · exact absurd rfl hne
  · cases r2 with
    | cons r t =>
      cases t
      cases r
      obtain ⟨j, w, ⟨b1, b2⟩, h1, h2, h3⟩ := h
      obtain ⟨v, hv, rv⟩ := r1.get h2
      exact ⟨p, xs, _, j, v, rfl, rfl, hp, b1, b2, by rw [r1.length]; exact h1, hv, f _ _ _ _ rv (r1.eraseIdx j) h3⟩
  · exact h.elim
end
/-- without arguments -/
def dMutL0 (f : List W → List W → (W → List W → Prop) → Prop) (d : DE) : DE := fun st k x => d st (fun r st0 => match r with
  | .pk i => (match getT st0 i with
    | some (.lst xs) => f [] xs fun w ys => k (.w w) (setT st0 i (.lst ys))
    | _ => False)
  | _ => False) x
section
variable {X : Cx} {Z : Zx} {E : XS} {e o a b : Expr} {es : List Expr} {da db dd : DE} {ds : DA} {apos cpos pos : Pos}
theorem dmut0_ok {f : List W → List W → (W → List W → Prop) → Prop} {r : V → List V → Hp → VK → Prop}
    (hm : ∀ H0 H p xs ws k Q, Ex H0 H → H p = some (.lst xs) → Reps X.K Z H0 xs ws → f [] ws k → (∀ v w ys zs, Rep X.K Z H0 v w → Reps X.K Z H0 ys zs → k w zs → Q v (upd H p (.lst ys))) → r (.ref p) [] H Q) {σ : L2.St} {H : Hp} {Q : VK} (q : tE X.K Z E (dMutL0 f dd) σ H Q) : tBM0 X.K "list" r (tE X.K Z E dd) σ H Q := by
  obtain ⟨H0, F, G, pv, st, k, kx, wd, ss, hd, hk, hx⟩ := q
  refine tE_seq wd ss hx hd fun H1 G1 H1' st1 v r1 e1 wd1 ss1 rr k1 => ?_
  cases rr with
  | w _ => exact k1.elim
  | pk hv =>
    rename_i i
    replace k1 : (match getT st1 i with
      | some (.lst xs) => f [] xs fun w ys => k (.w w) (setT st1 i (.lst ys))
      | _ => False) := k1
    cases q1 : getT st1 i with
    | none => rw [q1] at k1; exact k1.elim
    | some t =>
      rw [q1] at k1
      cases t with
      | lst ws =>
        obtain ⟨G0, A, B, h1, h2, h6⟩ := ss1.own q1 hv
        cases h1 with
        | @lst p xs _ rs0 =>
          subst h2
          have hp0 : H1' p = some (.lst xs) := wd1.ow (p, _) (by simp)
          refine ⟨.inl ⟨rfl, _, .of hp0⟩, ?_⟩
          refine hm H1 H1' p xs ws _ Q wd1.ex hp0 rs0 k1 fun v w ys zs rv ry kk => ?_
          exact hk _ _ _ _ _ _ e1 wd1.write (h6 H1 (.lst zs) _ (Ex.refl _) (.lst ry)) (.w rv) kk
      | _ => exact k1.elim
theorem pd_extend (ho : PD X Z E o dd) (ha : PAD X Z E [e] ds)
    (hbase : attributeBase o "extend" X.env (eval o X.env) = eval o X.env := by rfl)
    (hfew : ((backTo cpos (starEach [e] X.env)).all (fun x => !x.1) && (backToKw cpos (keywordEach [] X.env)).all (fun x => x.1.isSome)
      && decide ([e].length + ([] : List Keyword).length + (if ([] : List Keyword).isEmpty then 0 else 1) < 30)) = true := by rfl)
    (hline : (apos.endLine == cpos.line) = true := by rfl) (hs : starEach [e] X.env = (false, eval e X.env) :: starEach [] X.env := by rfl) (hplain : (backTo cpos (starEach [] X.env)).any (·.1) = false := by rfl) :
    PD X Z E (.Call (.Attribute o "extend" apos) [e] [] cpos) (dMutL fExtend dd ds) :=
  pe_weak (pe_bm PySem.F.plainAttrs_list PySem.F.slot_list_extend PySem.F.type_list_extend mt_extend ho ha hbase hfew hline hs hplain) fun _ _ _ => dmut_ok mut_extend
theorem pd_insert (ho : PD X Z E o dd) (ha : PAD X Z E [a, b] ds)
    (hbase : attributeBase o "insert" X.env (eval o X.env) = eval o X.env := by rfl)
    (hfew : ((backTo cpos (starEach [a, b] X.env)).all (fun x => !x.1) && (backToKw cpos (keywordEach [] X.env)).all (fun x => x.1.isSome)
      && decide ([a, b].length + ([] : List Keyword).length + (if ([] : List Keyword).isEmpty then 0 else 1) < 30)) = true := by rfl)
    (hline : (apos.endLine == cpos.line) = true := by rfl) (hs : starEach [a, b] X.env = (false, eval a X.env) :: starEach [b] X.env := by rfl) (hplain : (backTo cpos (starEach [b] X.env)).any (·.1) = false := by rfl) :
    PD X Z E (.Call (.Attribute o "insert" apos) [a, b] [] cpos) (dMutL fInsert dd ds) :=
  pe_weak (pe_bm PySem.F.plainAttrs_list PySem.F.slot_list_insert PySem.F.type_list_insert mt_insert ho ha hbase hfew hline hs hplain) fun _ _ _ => dmut_ok mut_insert
theorem pd_popAt (ho : PD X Z E o dd) (ha : PAD X Z E [e] ds)
    (hbase : attributeBase o "pop" X.env (eval o X.env) = eval o X.env := by rfl)
    (hfew : ((backTo cpos (starEach [e] X.env)).all (fun x => !x.1) && (backToKw cpos (keywordEach [] X.env)).all (fun x => x.1.isSome)
      && decide ([e].length + ([] : List Keyword).length + (if ([] : List Keyword).isEmpty then 0 else 1) < 30)) = true := by rfl)
    (hline : (apos.endLine == cpos.line) = true := by rfl) (hs : starEach [e] X.env = (false, eval e X.env) :: starEach [] X.env := by rfl) (hplain : (backTo cpos (starEach [] X.env)).any (·.1) = false := by rfl) :
    PD X Z E (.Call (.Attribute o "pop" apos) [e] [] cpos) (dMutL (fun us xs k => us ≠ [] ∧ fPop us xs k) dd ds) :=
  pe_weak (pe_bm PySem.F.plainAttrs_list PySem.F.slot_list_pop PySem.F.type_list_pop mt_popAt ho ha hbase hfew hline hs hplain) fun _ _ _ => dmut_ok mut_popAt
theorem pd_pop (ho : PD X Z E o dd) (hbase : attributeBase o "pop" X.env (eval o X.env) = eval o X.env := by rfl) (hline : (apos.endLine == cpos.line) = true := by rfl) :
    PD X Z E (.Call (.Attribute o "pop" apos) [] [] cpos) (dMutL0 fPop dd) :=
  pe_weak (pe_bm0 PySem.F.plainAttrs_list PySem.F.slot_list_pop PySem.F.type_list_pop mt_pop ho hbase hline) fun _ _ _ => dmut0_ok fun H0 H p xs ws k Q e hp r h f => by
    obtain ⟨w, h1, h2⟩ := h
    obtain ⟨v, hv, rv⟩ := r.get h1
    exact ⟨p, xs, v, rfl, rfl, hp, by rw [r.length]; exact hv, f _ _ _ _ rv r.dropLast h2⟩
theorem pd_reverse (ho : PD X Z E o dd) (hbase : attributeBase o "reverse" X.env (eval o X.env) = eval o X.env := by rfl) (hline : (apos.endLine == cpos.line) = true := by rfl) :
    PD X Z E (.Call (.Attribute o "reverse" apos) [] [] cpos) (dMutL0 fReverse dd) :=
  pe_weak (pe_bm0 PySem.F.plainAttrs_list PySem.F.slot_list_reverse PySem.F.type_list_reverse mt_reverse ho hbase hline) fun _ _ _ => dmut0_ok fun H0 H p xs ws k Q e hp r h f => ⟨p, xs, rfl, rfl, hp, f _ _ _ _ .non r.reverse h⟩
theorem pd_clear (ho : PD X Z E o dd) (hbase : attributeBase o "clear" X.env (eval o X.env) = eval o X.env := by rfl) (hline : (apos.endLine == cpos.line) = true := by rfl) :
    PD X Z E (.Call (.Attribute o "clear" apos) [] [] cpos) (dMutL0 fClear dd) :=
  pe_weak (pe_bm0 PySem.F.plainAttrs_list PySem.F.slot_list_clear PySem.F.type_list_clear mt_clear ho hbase hline) fun _ _ _ => dmut0_ok fun H0 H p xs ws k Q e hp r h f => ⟨p, xs, rfl, rfl, hp, f _ _ _ _ .non .nil h⟩
end

/-! ### o[i] = v as a target: an owned list, an owned dict -/
def gSubD (dd di : DE) : DG := fun w st k => dd st (fun r st1 => di st1 (fun ri st2 => match r with
  | .pk j => (match getT st2 j, ri.val st2 with
    | some (.lst xs), some (.int i) => ∃ n, ixN xs.length i = some n ∧ k (setT st2 j (.lst (xs.set n w)))
    | some (.dK kvs), some u => (match u.key with
      | some key => kvs.length < sizeLine ∧ k (setT st2 j (.dK (pt kvs key w)))
      | none => False)
    | _, _ => False)
  | _ => False) (fun _ _ => False)) (fun _ _ => False)
def rSetX : TSet := fun o i v H Q => rSetL o i v H Q ∨ rSetD o i v H Q
section
variable {X : Cx} {Z : Zx} {E : XS} {e o i a b : Expr} {dd di : DE} {pos : Pos}
theorem set_X (hu : X.A.units + 1 < cLine) : PSet X rSetX := fun pins s σ H o i v ov iv u Q I ro ri rv h => by
  rcases h with h | h
  · exact set_list pins s σ H o i v ov iv u Q I ro ri rv h
  · exact set_dict hu pins s σ H o i v ov iv u Q I ro ri rv h
theorem subX_ok {K : PySem.W.Frag} {v : V} {σ : L2.St} {H : Hp} {Q : L2.St → Hp → Prop} (q : tG K Z (gSubD dd di) v σ H Q) : gSub (tE K Z E0s dd) (tE K Z E0s di) rSetX v σ H Q := by
  obtain ⟨H0, F, G, pv, st, w, k, wd, ss, r, hg, hk⟩ := q
  have nox : ∀ {σ : L2.St} {H0 : Hp}, AccXe K Z E0s F pv σ H0 (fun _ _ => False) := ⟨hk.tabs, fun _ _ _ _ _ _ _ _ _ _ _ z => z.elim⟩
  refine tE_seq wd ss nox hg fun H1 G1 H1' st1 v1 r1 e1 wd1 ss1 rr1 k1 => ?_
  refine tE_seq wd1 ss1 nox k1 fun H2 G2 H2' st2 v2 r2 e2 wd2 ss2 rr2 k2 => ?_
  cases rr1 with
  | w _ => exact k2.elim
  | pk hp =>
    rename_i j
    replace k2 : (match getT st2 j, r2.val st2 with
      | some (.lst xs), some (.int i) => ∃ n, ixN xs.length i = some n ∧ k (setT st2 j (.lst (xs.set n w)))
      | some (.dK kvs), some u => (match u.key with
        | some key => kvs.length < sizeLine ∧ k (setT st2 j (.dK (pt kvs key w)))
        | none => False)
      | _, _ => False) := k2
    have rw2 := r.mono (e1.trans e2)
    cases q1 : getT st2 j with
    | none => rw [q1] at k2; exact k2.elim
    | some t =>
      rw [q1] at k2
      cases q2 : r2.val st2 with
      | none => rw [q2] at k2; cases t <;> exact k2.elim
      | some u =>
        rw [q2] at k2
        have rp := rr2.peek ss2 wd2 q2
        obtain ⟨Gx, Ga, Gb, h1, h2, h3⟩ := ss2.own q1 hp
        cases t with
        | lst xs =>
          cases u with
          | int i =>
            obtain ⟨n, hn, k3⟩ := k2
            cases h1 with
            | @lst p vs _ rs =>
              subst h2
              have hpH : H2' p = some (.lst vs) := wd2.ow (p, _) (by simp)
              have ev : v2 = .int i := by cases rp with | fz h => cases h; rfl
              subst ev
              exact .inl ⟨p, vs, i, n, rfl, rfl, hpH, by rw [rs.length]; exact hn, hk _ _ _ _ _ (e1.trans e2) wd2.write (h3 H2 _ _ (Ex.refl _) (.lst (rs.set rw2 n))) k3⟩
          | _ => exact k2.elim
        | dK kvs =>
          replace k2 : (match u.key with
            | some key => kvs.length < sizeLine ∧ k (setT st2 j (.dK (pt kvs key w)))
            | none => False) := by cases u <;> exact k2
          cases q3 : u.key with
          | none => rw [q3] at k2; exact k2.elim
          | some key =>
            rw [q3] at k2
            cases h1 with
            | dK rkv =>
              rename_i p kv
              subst h2
              have hpH : H2' p = some (.dK kv) := wd2.ow (p, _) (by simp)
              have rput := rkv.put (k := key) rw2
              exact .inr ⟨p, _, rfl, .inl ⟨kv, key, hpH, rp.key_of q3, by rw [rkv.length]; exact k2.1, rfl⟩, hk _ _ _ _ _ (e1.trans e2) wd2.write (h3 H2 _ _ (Ex.refl _) (.dK rput)) k2.2⟩
        | _ => exact k2.elim
theorem pgd_sub (hu : X.A.units + 1 < cLine) (ho : PD X Z E0s o dd) (hi : PD X Z E0s i di)
    (ha : ∀ v, assign (.Subscript o i pos) X.env v = (do
      let ov ← holding [v] (eval o X.env)
      let iv ← holding [v, ov] (eval i X.env)
      standAt pos
      holding [v, ov, iv] (setItem ov iv v)
      release [v, ov, iv] []) := by intro _; rfl) : PGD X Z (.Subscript o i pos) (gSubD dd di) :=
  pg_weak (pg_sub ho hi (set_X hu) ha) fun _ _ _ _ => subX_ok
end
end Y
namespace Y
open PySem L2
open PySem.Spec PyProof.Rows
open Evl (Ex)

/-! ### a name's own thing, frozen as it is read -/
def dVarF (i : Nat) : DE := fun st k _ => match at' st i with
  | .lo t => (match t.frz with
    | some w => k (.w w) (put st i (.lo (.fz w)))
    | none => False)
  | .mp _ (.fz w) => k (.w w) st
  | _ => False
section
variable {X : Cx} {Z : Zx} {E : XS} {pos : Pos}
theorem pd_varF (i : Nat) {x : Str} (hN : X.N[i]? = some x := by rfl) (hv : Vis X.env.scope x := by first | exact Or.inl rfl | exact Or.inr (Or.inl rfl) | exact Or.inr (Or.inr rfl)) (hd : (x == ("__debug__" : Str)) = false := by decide)
    (hcd : (x == ("__classdict__" : Str)) = false := by decide) : PD X Z E (.Name x pos) (dVarF i) := by
  refine pe_weak (pe_var hN hv hd hcd) fun σ H Q q => ?_
  obtain ⟨H0, F, G, pv, st, k, kx, wd, ss, hd, hk, hx⟩ := q
  unfold dVarF at hd
  cases q : at' st i with
  | un => rw [q] at hd; exact hd.elim
  | fr _ _ _ _ _ _ => rw [q] at hd; exact hd.elim
  | lo t =>
    rw [q] at hd
    obtain ⟨v, Gx, Ga, Gb, h1, h2, h3, h4, _⟩ := ss.lo_at q
    refine ⟨v, h1, ?_⟩
    cases q1 : t.frz with
    | none => simp only [q1] at hd
    | some w =>
      simp only [q1] at hd
      subst h3
      have wd2 : Wd H0 F (Gx ++ (Ga ++ Gb)) H := wd.perm (by rw [← List.append_assoc]; exact List.Perm.append_right _ List.perm_append_comm)
      obtain ⟨H2, e2, wd3, r3⟩ := freeze wd2 h2 q1
      have s2 := h4 H2 v (.fz w) [] e2 (.fz r3)
      rw [set_self h1, List.append_nil] at s2
      exact hk _ _ _ _ _ _ e2 wd3 s2 (.w r3) hd
  | mp n t =>
    rw [q] at hd
    cases t with
    | fz w =>
      obtain ⟨v, G1, Ga, Gb, h1, _, h2, _⟩ := ss.mp_at q
      refine ⟨v, h1, ?_⟩
      cases h2 with | fz h2 => exact hk _ _ _ _ _ _ (Ex.refl _) wd ss (.w h2) hd
    | _ => exact hd.elim
end

/-! ### methods that read alone -/
def W.kd : W → String
  | .lst _ => "list" | .scr _ => "list" | .str _ => "str" | _ => ""
def kdR (T : String) (st : S) (r : R) : Bool := match r.val st with
  | some w => w.kd == T
  | none => false
abbrev OM := W → List W → (W → Prop) → Prop
def dMt (T : String) (o : OM) (d : DE) (a : DA) : DE := fun st k x => d st (fun r st0 => kdR T st0 r = true ∧ a st0 (fun rs st1 => match r.val st1, vals st1 rs with
  | some w, some ws => o w ws fun w' => k (.w w') st1
  | _, _ => False) x) x
def dMt0 (T : String) (o : OM) (d : DE) : DE := fun st k x => d st (fun r st0 => kdR T st0 r = true ∧ match r.val st0 with
  | some w => o w [] fun w' => k (.w w') st0
  | _ => False) x
def MtD (K : PySem.W.Frag) (Z : Zx) (r : V → List V → Hp → VK → Prop) (o : OM) : Prop := ∀ H0 H v w vs ws k Q, Ex H0 H → RepP K Z H0 H v w → RepPs K Z H0 H vs ws → o w ws k → Fin K Z H0 H k Q → r v vs H Q
theorem RepP.tyV {K : PySem.W.Frag} {Z : Zx} {H0 H : Hp} {v : V} {w : W} {T : String} (hT : T = "list" ∨ T = "str") (h : RepP K Z H0 H v w) (e : Ex H0 H) (hk : w.kd = T) : tyV K T v H := by
  cases w with
  | str s => have z := h.str_of; subst z; exact hk.symm
  | lst ws =>
    obtain ⟨p, xs, rfl, hp, _⟩ := h.lst_of e
    exact .inl ⟨hk.symm, _, .of hp⟩
  | scr ns =>
    obtain ⟨p, rfl, hp⟩ := h.scr_of e
    exact .inl ⟨hk.symm, _, hp⟩
  | _ => rcases hT with rfl | rfl <;> exact absurd hk (show ¬ "" = _ by decide)
section
variable {X : Cx} {Z : Zx} {E : XS} {e o : Expr} {es : List Expr} {dd : DE} {ds : DA} {apos cpos pos : Pos} {T id : String} {name : Str} {r : V → List V → Hp → VK → Prop} {om : OM}
theorem kdR_ty {K : PySem.W.Frag} {H0 H F : Hp} {G : Fp} {pv : List V} {σ : L2.St} {st : S} {v : V} {r1 : R} (hT : T = "list" ∨ T = "str") (wd : Wd H0 F G H) (ss : Sts K Z H0 pv σ st G) (rr : RepR K Z H0 σ v r1) (hkd : kdR T st r1 = true) : tyV K T v H := by
  unfold kdR at hkd
  cases q1 : r1.val st with
  | none => rw [q1] at hkd; exact absurd hkd Bool.false_ne_true
  | some w => rw [q1] at hkd; exact (rr.peek ss wd q1).tyV hT wd.ex (beq_iff_eq.mp hkd)
theorem dmt_ok2 (hT : T = "list" ∨ T = "str") (hm : MtD X.K Z r om) {σ : L2.St} {H : Hp} {Q : VK} (q : tE X.K Z E (dMt T om dd ds) σ H Q) : tBM X.K T r (tE X.K Z E dd) (tAr X.K Z E ds) σ H Q := by
  obtain ⟨H0, F, G, pv, st, k, kx, wd, ss, hd, hk, hx⟩ := q
  refine tE_seq wd ss hx hd fun H1 G1 H1' st1 v r1 e1 wd1 ss1 rr k1 => ?_
  obtain ⟨hkd, k1⟩ := k1
  refine ⟨kdR_ty hT wd1 ss1 rr hkd, ?_⟩
  refine tA_seq wd1 ss1 (hx.up e1) k1 fun H2 G2 H2' st2 vs rs e2 wd2 ss2 rr2 k2 => ?_
  cases q1 : r1.val st2 with
  | none => rw [q1] at k2; exact k2.elim
  | some w =>
    cases q2 : vals st2 rs with
    | none => rw [q1, q2] at k2; exact k2.elim
    | some ws =>
      rw [q1, q2] at k2
      exact hm H2 H2' v w vs ws _ Q wd2.ex ((rr.mono e2).peek ss2 wd2 q1) (rr2.peek ss2 wd2 q2) k2 fun H0' H' v' w' g rv kw => hk _ _ _ _ _ _ (e1.trans (e2.trans g.e0)) (wd2.grow g) (ss2.mono g.e0) (.w rv) kw
theorem dmt0_ok2 (hT : T = "list" ∨ T = "str") (hm : MtD X.K Z r om) {σ : L2.St} {H : Hp} {Q : VK} (q : tE X.K Z E (dMt0 T om dd) σ H Q) : tBM0 X.K T r (tE X.K Z E dd) σ H Q := by
  obtain ⟨H0, F, G, pv, st, k, kx, wd, ss, hd, hk, hx⟩ := q
  refine tE_seq wd ss hx hd fun H1 G1 H1' st1 v r1 e1 wd1 ss1 rr k1 => ?_
  obtain ⟨hkd, k1⟩ := k1
  refine ⟨kdR_ty hT wd1 ss1 rr hkd, ?_⟩
  cases q1 : r1.val st1 with
  | none => rw [q1] at k1; exact k1.elim
  | some w =>
    rw [q1] at k1
    exact hm H1 H1' v w [] [] _ Q wd1.ex (rr.peek ss1 wd1 q1) .nil k1 fun H0' H' v' w' g rv kw => hk _ _ _ _ _ _ (e1.trans g.e0) (wd1.grow g) (ss1.mono g.e0) (.w rv) kw
theorem pd_mt (hT : T = "list" ∨ T = "str") (pa : PlainAttrs T) (slot : Slot T name id) (hty : typeOf (.builtin id) = pure (.type "method_descriptor")) (hm : MtR X id r) (hd : MtD X.K Z r om) (ho : PD X Z E o dd) (ha : PAD X Z E (e :: es) ds)
    (hbase : attributeBase o name X.env (eval o X.env) = eval o X.env := by rfl)
    (hfew : ((backTo cpos (starEach (e :: es) X.env)).all (fun x => !x.1) && (backToKw cpos (keywordEach [] X.env)).all (fun x => x.1.isSome)
      && decide ((e :: es).length + ([] : List Keyword).length + (if ([] : List Keyword).isEmpty then 0 else 1) < 30)) = true := by rfl)
    (hline : (apos.endLine == cpos.line) = true := by rfl) (hs : starEach (e :: es) X.env = (false, eval e X.env) :: starEach es X.env := by rfl) (hplain : (backTo cpos (starEach es X.env)).any (·.1) = false := by rfl) :
    PD X Z E (.Call (.Attribute o name apos) (e :: es) [] cpos) (dMt T om dd ds) :=
  pe_weak (pe_bm pa slot hty hm ho ha hbase hfew hline hs hplain) fun _ _ _ => dmt_ok2 hT hd
theorem pd_mt0 (hT : T = "list" ∨ T = "str") (pa : PlainAttrs T) (slot : Slot T name id) (hty : typeOf (.builtin id) = pure (.type "method_descriptor")) (hm : MtR X id r) (hd : MtD X.K Z r om) (ho : PD X Z E o dd)
    (hbase : attributeBase o name X.env (eval o X.env) = eval o X.env := by rfl) (hline : (apos.endLine == cpos.line) = true := by rfl) :
    PD X Z E (.Call (.Attribute o name apos) [] [] cpos) (dMt0 T om dd) :=
  pe_weak (pe_bm0 pa slot hty hm ho hbase hline) fun _ _ _ => dmt0_ok2 hT hd
end
section
variable {X : Cx} {Z : Zx} {K : PySem.W.Frag} {H0 H : Hp}
theorem RepPs.two {vs : List V} {w u : W} (h : RepPs K Z H0 H vs [w, u]) : ∃ x y, vs = [x, y] ∧ RepP K Z H0 H x w ∧ RepP K Z H0 H y u := by
  cases h with
  | cons h t => cases t with | cons h' t => cases t; exact ⟨_, _, rfl, h, h'⟩
theorem RepPs.nil_of {vs : List V} (h : RepPs K Z H0 H vs []) : vs = [] := by cases h; rfl
/-- xs.count(x) by == -/
def oCount : OM := fun w ws k => match w, ws with
  | .lst ys, [a] => ∃ n : Nat, countW (fun y => eqW 6 y a) ys = some n ∧ k (.int n)
  | _, _ => False
def rCntX (K : PySem.W.Frag) (Z : Zx) : V → List V → Hp → VK → Prop := fun x xs H Q => ∃ ys a v, ∃ n : Nat, xs = [v] ∧ Rep K Z H x (.lst ys) ∧ Rep K Z H v a ∧ countW (fun y => eqW 6 y a) ys = some n ∧ ∀ H', Ex H H' → Q (.int n) H'
theorem mt_countX {kq : Nat} {CX' : CXT} {E : XK} (ow : EqOwn X.prog X.w X.K X.mg X.base CX' Z kq) (hp : Passes CX' X E) (hr : Room (kq + 8) X.A) : MtR X "list.count" (rCntX X.K Z) := by
  intro pins s σ H x xs v us Q I rx rxs h
  obtain ⟨ys, a, y, n, rfl, ra, rb, e, q⟩ := h
  obtain ⟨u, rfl, ru⟩ := rxs.one
  cases ra with
  | lst hb rs =>
    cases rx
    obtain ⟨h1, h2⟩ := countW_at _ _ e
    have sb : Sub X (6 + kq + 1 + 1) X.A := ⟨by rw [show 6 + kq + 1 + 1 = kq + 8 by omega]; exact hr, rfl⟩
    refine QE.count_list _ (listX (n := 6) (f := fun y => eqW 6 y a) (P := fun _ => True) (eqG2W ow hp 6) sb hb rs ru rb (fun i y hy _ => h1 i y hy)) (fun s' l => ?_) ⟨H, I, Ex.refl _⟩
    obtain ⟨H', I', e'⟩ := l
    rw [rs.length, ← h2]
    exact ⟨.int (n : Nat), H', I'.tok _, ⟨_, rfl⟩, q H' e'⟩
theorem md_countX : MtD K Z (rCntX K Z) oCount := by
  intro H0 H v w vs ws k Q e rv rvs o f
  unfold oCount at o
  split at o
  · rename_i ys a
    obtain ⟨n, h1, h2⟩ := o
    obtain ⟨y, rfl, ry⟩ := rvs.one
    exact ⟨ys, a, y, n, rfl, rv.up e, ry.up e, h1, fun H' e' => f H0 H' _ _ ⟨Ex.refl _, e', e.trans e', fun a o h n => by rw [n] at h; cases h⟩ .int h2⟩
  · exact o.elim
/-- xs.index(x) of plain data: it is there -/
def oIndex : OM := fun w ws k => match w, ws with
  | .lst ys, [a] => ∃ ds d j z, W.pds ys = some ds ∧ a.pd = some d ∧ SeqAt.shaped (.list ds) = true ∧ SeqAt.shaped d = true ∧ ds[j]? = some z ∧ PyData.eqv z d = true ∧ (∀ (m : Nat) (z' : PyData), m < j → ds[m]? = some z' → PyData.eqv z' d = false) ∧ k (.int (j : Nat))
  | _, _ => False
theorem md_index : MtD K Z (rIndexD K) oIndex := by
  intro H0 H v w vs ws k Q e rv rvs o f
  unfold oIndex at o
  split at o
  · rename_i ys a
    obtain ⟨ds, d, j, z, h1, h2, h3, h4, h5, h6, h7, h8⟩ := o
    obtain ⟨y, rfl, ry⟩ := rvs.one
    obtain ⟨p, xs, rfl, hp, rs⟩ := rv.lst_of e
    exact ⟨p, y, d, ds, j, z, rfl, rfl, .lst (.of hp) (Reps.dp ys (rs.mono e) h1), ry.dp e h2, h3, h4, h5, h6, h7, f.same e .int h8⟩
  · exact o.elim
end

/-! ### calls that make a new list -/
abbrev OL := List W → (List W → Prop) → Prop
def CallL (K : PySem.W.Frag) (Z : Zx) (r : List V → Hp → VK → Prop) (c : OL) : Prop := ∀ H0 H vs ws (k : List W → Prop) (Q : VK), Ex H0 H → RepPs K Z H0 H vs ws → c ws k → (∀ p xs zs, H p = none → Reps K Z H0 xs zs → k zs → Q (.ref p) (upd H p (.lst xs))) → r vs H Q
def lCB (c : OL) (a : DA) : DL := fun st k x => a st (fun rs st1 => match vals st1 rs with
  | some ws => c ws fun zs => k zs st1
  | none => False) x
section
variable {X : Cx} {Z : Zx} {E : XS} {e o : Expr} {es : List Expr} {dd : DE} {ds : DA} {pos : Pos}
theorem lcb_ok {r : List V → Hp → VK → Prop} {c : OL} (hc : CallL X.K Z r c) {σ : L2.St} {H : Hp} {Q : VK} (q : tL X.K Z E (lCB c ds) σ H Q) : tCB r (tAr X.K Z E ds) σ H Q := by
  obtain ⟨H0, F, G, pv, st, k, kx, wd, ss, hd, hk, hx⟩ := q
  refine tA_seq wd ss hx hd fun H1 G1 H1' st1 vs rs e1 wd1 ss1 rr1 k1 => ?_
  cases q1 : vals st1 rs with
  | none => rw [q1] at k1; exact k1.elim
  | some ws =>
    rw [q1] at k1
    exact hc H1 H1' vs ws _ Q wd1.ex (rr1.peek ss1 wd1 q1) k1 fun p xs zs hp r kz => hk _ _ _ _ _ _ _ e1 (wd1.hand hp) (wd1.free hp).2.1 ss1 r kz
theorem pl_callB {x : Str} {p : Pos} {id : String} {r : List V → Hp → VK → Prop} {c : OL} (hc : CallR X (.builtin id) r) (hd : CallL X.K Z r c) (hg : Gl X x) (hm : X.mg x = none) (hv : bootBuiltins x = some (.builtin id)) (ha : PAD X Z E (e :: es) ds)
    (hn : x ≠ "__name__" := by decide) (hdb : (x == ("__debug__" : Str)) = false := by decide) (he : starEach (e :: es) X.env = (false, eval e X.env) :: starEach es X.env := by rfl) (hpl : (backTo pos (starEach es X.env)).any (·.1) = false := by rfl) :
    PLD X Z E (.Call (.Name x p) (e :: es) [] pos) (lCB c ds) := pe_weak (pe_callB hc hg hm hv ha hn hdb he hpl) fun _ _ _ => lcb_ok hd
theorem pl_callTy {x : Str} {p : Pos} {id : String} {r : List V → Hp → VK → Prop} {c : OL} (hc : CallR X (.type id) r) (hd : CallL X.K Z r c) (hg : Gl X x) (hm : X.mg x = none) (hv : bootBuiltins x = some (.type id)) (ha : PAD X Z E (e :: es) ds)
    (hn : x ≠ "__name__" := by decide) (hdb : (x == ("__debug__" : Str)) = false := by decide) (he : starEach (e :: es) X.env = (false, eval e X.env) :: starEach es X.env := by rfl) (hpl : (backTo pos (starEach es X.env)).any (·.1) = false := by rfl) :
    PLD X Z E (.Call (.Name x p) (e :: es) [] pos) (lCB c ds) := pe_weak (pe_callTy hc hg hm hv ha hn hdb he hpl) fun _ _ _ => lcb_ok hd
end
section
variable {X : Cx} {Z : Zx} {K : PySem.W.Frag} {H0 H : Hp}
theorem Reps.strs_of : ∀ {ns : List Str} {xs}, Reps K Z H xs (ns.map W.str) → xs = ns.map V.str
  | [], _, h => by cases h; rfl
  | n :: ns, _, h => by cases h with | cons r t => cases r; rw [Reps.strs_of t, List.map_cons]
theorem Reps.bls_of : ∀ {ns : List Bool} {xs}, Reps K Z H xs (ns.map W.bl) → xs = ns.map V.bl
  | [], _, h => by cases h; rfl
  | n :: ns, _, h => by cases h with | cons r t => cases r; rw [Reps.bls_of t, List.map_cons]
/-- list(x) of a list, a tuple -/
def cList : OL := fun ws k => match ws with
  | [.lst ys] => k ys
  | [.tup ys] => k ys
  | [.scr ns] => k (ns.map .int)
  | _ => False
theorem cl_list : CallL K Z (fun xs H Q => ∃ p ys, xs = [.ref p] ∧ (SqL K H p ys ∨ SqT K H p ys) ∧ ∀ l, H l = none → Q (.ref l) (upd H l (.lst ys))) cList := by
  intro H0 H vs ws k Q e r c f
  unfold cList at c
  split at c
  · obtain ⟨v, rfl, rv⟩ := r.one
    obtain ⟨p, xs, rfl, hp, rs⟩ := rv.lst_of e
    exact ⟨p, xs, rfl, .inl (.of hp), fun l hl => f l xs _ hl rs c⟩
  · obtain ⟨v, rfl, rv⟩ := r.one
    obtain ⟨p, xs, rfl, hp, rs⟩ := rv.tup_of e
    exact ⟨p, xs, rfl, .inr hp, fun l hl => f l xs _ hl rs c⟩
  · obtain ⟨v, rfl, rv⟩ := r.one
    obtain ⟨p, rfl, hp⟩ := rv.scr_of e
    exact ⟨p, _, rfl, .inl hp, fun l hl => f l _ _ hl (Reps.map _ _ (fun _ => .int) _) c⟩
  · exact c.elim
/-- tuple(x) of a list, a tuple -/
def cTuple : OC := fun ws k => match ws with
  | [.lst ys] => k (.tup ys)
  | [.tup ys] => k (.tup ys)
  | _ => False
theorem cd_tuple : CallD K Z (fun xs H Q => ∃ p ys, xs = [.ref p] ∧ ((SqL K H p ys ∧ ∀ l, H l = none → Q (.ref l) (upd H l (.tup ys))) ∨ (SqT K H p ys ∧ Q (.ref p) H))) cTuple := by
  intro H0 H vs ws k Q e r c f
  unfold cTuple at c
  split at c
  · obtain ⟨v, rfl, rv⟩ := r.one
    obtain ⟨p, xs, rfl, hp, rs⟩ := rv.lst_of e
    exact ⟨p, xs, rfl, .inl ⟨.of hp, f.newT e rs c⟩⟩
  · obtain ⟨v, rfl, rv⟩ := r.one
    have rv' := rv
    obtain ⟨p, xs, rfl, hp, rs⟩ := rv.tup_of e
    refine ⟨p, xs, rfl, .inr ⟨hp, ?_⟩⟩
    cases rv' with | fz h => exact f.same e h c
  · exact c.elim
def cAll : OC := fun ws k => ∃ bs : List Bool, ws = [.lst (bs.map .bl)] ∧ k (.bl (bs.all id))
def cAny : OC := fun ws k => ∃ bs : List Bool, ws = [.lst (bs.map .bl)] ∧ k (.bl (bs.any id))
theorem cd_all : CallD K Z (rAll K) cAll := by
  intro H0 H vs ws k Q e r c f
  obtain ⟨bs, rfl, c⟩ := c
  obtain ⟨v, rfl, rv⟩ := r.one
  obtain ⟨p, xs, rfl, hp, rs⟩ := rv.lst_of e
  exact ⟨p, bs, rfl, by rw [← rs.bls_of]; exact .of hp, f.same e .bl c⟩
theorem cd_any : CallD K Z (rAny K) cAny := by
  intro H0 H vs ws k Q e r c f
  obtain ⟨bs, rfl, c⟩ := c
  obtain ⟨v, rfl, rv⟩ := r.one
  obtain ⟨p, xs, rfl, hp, rs⟩ := rv.lst_of e
  exact ⟨p, bs, rfl, by rw [← rs.bls_of]; exact .of hp, f.same e .bl c⟩
/-- max(xs), min(xs) of whole numbers, some -/
def cMax1 : OC := fun ws k => ∃ ns : List Int, ws = [.lst (ns.map .int)] ∧ 0 < ns.length ∧ ∀ m, m ∈ ns → (∀ y, y ∈ ns → y ≤ m) → k (.int m)
def cMin1 : OC := fun ws k => ∃ ns : List Int, ws = [.lst (ns.map .int)] ∧ 0 < ns.length ∧ ∀ m, m ∈ ns → (∀ y, y ∈ ns → m ≤ y) → k (.int m)
theorem cd_max1 : CallD K Z (rMax K) cMax1 := by
  intro H0 H vs ws k Q e r c f
  obtain ⟨ns, rfl, h, c⟩ := c
  obtain ⟨v, rfl, rv⟩ := r.one
  obtain ⟨p, xs, rfl, hp, rs⟩ := rv.lst_of e
  exact ⟨p, ns, rfl, by rw [← rs.ints_of]; exact .of hp, h, fun m h1 h2 => f.same e .int (c m h1 h2)⟩
theorem cd_min1 : CallD K Z (rMin K) cMin1 := by
  intro H0 H vs ws k Q e r c f
  obtain ⟨ns, rfl, h, c⟩ := c
  obtain ⟨v, rfl, rv⟩ := r.one
  obtain ⟨p, xs, rfl, hp, rs⟩ := rv.lst_of e
  exact ⟨p, ns, rfl, by rw [← rs.ints_of]; exact .of hp, h, fun m h1 h2 => f.same e .int (c m h1 h2)⟩
/-- int(x), bool(x) -/
def cInt : OC := fun ws k => match ws with
  | [.int i] => k (.int i)
  | [.bl b] => k (.int (if b then 1 else 0))
  | [.str a] => ∃ n, PySem.intText? a = some n ∧ a.length ≤ 640 ∧ k (.int n)
  | _ => False
def rInt : List V → Hp → VK → Prop := fun xs H Q => ((∃ i, xs = [.int i] ∧ Q (.int i) H) ∨ ∃ k, xs = [.bl k] ∧ Q (.int (if k then 1 else 0)) H) ∨ ∃ a n, xs = [.str a] ∧ PySem.intText? a = some n ∧ a.length ≤ 640 ∧ Q (.int n) H
theorem call_int : CallR X (.type "int") rInt := by
  intro pins s σ H xs us Q I r h
  rcases h with h | h
  · exact call_int1 pins s σ H xs us Q I r h
  · exact call_int_str pins s σ H xs us Q I r h
theorem cd_int : CallD K Z rInt cInt := by
  intro H0 H vs ws k Q e r c f
  unfold cInt at c
  split at c
  · obtain ⟨v, rfl, rv⟩ := r.one
    exact .inl (.inl ⟨_, by rw [rv.int_of], f.same e .int c⟩)
  · obtain ⟨v, rfl, rv⟩ := r.one
    exact .inl (.inr ⟨_, by rw [rv.bl_of], f.same e .int c⟩)
  · obtain ⟨v, rfl, rv⟩ := r.one
    obtain ⟨n, h1, h2, h3⟩ := c
    exact .inr ⟨_, n, by rw [rv.str_of], h1, h2, f.same e .int h3⟩
  · exact c.elim
def cBool : OC := fun ws k => match ws with
  | [.int i] => k (.bl (i != 0))
  | [.bl b] => k (.bl b)
  | _ => False
theorem cd_bool : CallD K Z (fun xs H Q => (∃ i, xs = [.int i] ∧ Q (.bl (i != 0)) H) ∨ ∃ k, xs = [.bl k] ∧ Q (.bl k) H) cBool := by
  intro H0 H vs ws k Q e r c f
  unfold cBool at c
  split at c
  · obtain ⟨v, rfl, rv⟩ := r.one
    exact .inl ⟨_, by rw [rv.int_of], f.same e .bl c⟩
  · obtain ⟨v, rfl, rv⟩ := r.one
    exact .inr ⟨_, by rw [rv.bl_of], f.same e .bl c⟩
  · exact c.elim
end
end Y
namespace Y
open PySem L2
open PySem.Spec PyProof.Rows
open Evl (Ex)
def nobB (x : Str) (K : PySem.W.Frag) : Bool := He.eqO (PySem.W.findIn K (.ref (He.ga K x)) "__bool__") (some none)
theorem nobB_ok {x : Str} {K : PySem.W.Frag} (h : nobB x K = true) : PySem.W.findIn K (.ref (He.ga K x)) "__bool__" = some none := He.eqO_ok h

/-! ### methods of texts -/
def oStarts : OM := fun w ws k => match w, ws with
  | .str a, [.str b] => k (.bl (Txt.startswith a b))
  | _, _ => False
def oEnds : OM := fun w ws k => match w, ws with
  | .str a, [.str b] => k (.bl (Txt.endswith a b))
  | _, _ => False
def oJoin : OM := fun w ws k => match w, ws with
  | .str a, [.lst xs] => ∃ ys : List Str, xs = ys.map .str ∧ (ys.map (·.length)).sum + ys.length * a.length ≤ 16777216 ∧ k (.str (Txt.join a ys))
  | .str a, [.tup xs] => ∃ ys : List Str, xs = ys.map .str ∧ (ys.map (·.length)).sum + ys.length * a.length ≤ 16777216 ∧ k (.str (Txt.join a ys))
  | _, _ => False
def oSplit : OM := fun w ws k => match w, ws with
  | .str a, [.str b] => (b.length == 0) = false ∧ a.length + 2 ≤ sizeLine ∧ k (.lst ((Txt.split a b).map .str))
  | _, _ => False
def oPartition : OM := fun w ws k => match w, ws with
  | .str a, [.str b] => (b.length == 0) = false ∧ a.length ≤ sizeLine ∧ k (.tup [.str (Txt.partition a b).1, .str (Txt.partition a b).2.1, .str (Txt.partition a b).2.2])
  | _, _ => False
def oSIndex : OM := fun w ws k => match w, ws with
  | .str a, [.str b] => ∃ (i : Nat) (rest : List Nat), Builtin.Str.occurrences a b 0 a.length 1 = i :: rest ∧ k (.int (i : Nat))
  | _, _ => False
section
variable {K : PySem.W.Frag} {Z : Zx} {H0 H : Hp}
theorem md_starts : MtD K Z (fun x xs H Q => ∃ a b, x = .str a ∧ xs = [.str b] ∧ Q (.bl (Txt.startswith a b)) H) oStarts := by
  intro H0 H v w vs ws k Q e rv rvs o f
  unfold oStarts at o
  split at o
  · obtain ⟨y, rfl, ry⟩ := rvs.one
    exact ⟨_, _, rv.str_of, by rw [ry.str_of], f.same e .bl o⟩
  · exact o.elim
theorem md_ends : MtD K Z (fun x xs H Q => ∃ a b, x = .str a ∧ xs = [.str b] ∧ Q (.bl (Txt.endswith a b)) H) oEnds := by
  intro H0 H v w vs ws k Q e rv rvs o f
  unfold oEnds at o
  split at o
  · obtain ⟨y, rfl, ry⟩ := rvs.one
    exact ⟨_, _, rv.str_of, by rw [ry.str_of], f.same e .bl o⟩
  · exact o.elim
theorem md_join : MtD K Z (fun x xs H Q => ∃ a p, ∃ ys : List Str, x = .str a ∧ xs = [.ref p] ∧ (SqL K H p (ys.map V.str) ∨ SqT K H p (ys.map V.str)) ∧
    (ys.map (·.length)).sum + ys.length * a.length ≤ 16777216 ∧ Q (.str (Txt.join a ys)) H) oJoin := by
  intro H0 H v w vs ws k Q e rv rvs o f
  unfold oJoin at o
  split at o
  · obtain ⟨ys, rfl, h1, h2⟩ := o
    obtain ⟨y, rfl, ry⟩ := rvs.one
    obtain ⟨p, xs, rfl, hp, rs⟩ := ry.lst_of e
    exact ⟨_, p, ys, rv.str_of, rfl, .inl (by rw [← rs.strs_of]; exact .of hp), h1, f.same e .str h2⟩
  · obtain ⟨ys, rfl, h1, h2⟩ := o
    obtain ⟨y, rfl, ry⟩ := rvs.one
    obtain ⟨p, xs, rfl, hp, rs⟩ := ry.tup_of e
    exact ⟨_, p, ys, rv.str_of, rfl, .inr (by rw [← rs.strs_of]; exact hp), h1, f.same e .str h2⟩
  · exact o.elim
theorem reps_strs : ∀ ys : List Str, Reps K Z H (ys.map V.str) (ys.map W.str)
  | [] => .nil
  | _ :: ys => .cons .str (reps_strs ys)
theorem md_split : MtD K Z (fun x xs H Q => ∃ a b, x = .str a ∧ xs = [.str b] ∧ (b.length == 0) = false ∧ a.length + 2 ≤ sizeLine ∧ rNewStrs (Txt.split a b) H Q) oSplit := by
  intro H0 H v w vs ws k Q e rv rvs o f
  unfold oSplit at o
  split at o
  · obtain ⟨h1, h2, h3⟩ := o
    obtain ⟨y, rfl, ry⟩ := rvs.one
    exact ⟨_, _, rv.str_of, by rw [ry.str_of], h1, h2, f.newL e (reps_strs _) h3⟩
  · exact o.elim
theorem md_partition : MtD K Z (fun x xs H Q => ∃ a b, x = .str a ∧ xs = [.str b] ∧ (b.length == 0) = false ∧ a.length ≤ sizeLine ∧
    ∀ p, H p = none → Q (.ref p) (upd H p (.tup [.str (Txt.partition a b).1, .str (Txt.partition a b).2.1, .str (Txt.partition a b).2.2]))) oPartition := by
  intro H0 H v w vs ws k Q e rv rvs o f
  unfold oPartition at o
  split at o
  · obtain ⟨h1, h2, h3⟩ := o
    obtain ⟨y, rfl, ry⟩ := rvs.one
    exact ⟨_, _, rv.str_of, by rw [ry.str_of], h1, h2, f.newT e (.cons .str (.cons .str (.cons .str .nil))) h3⟩
  · exact o.elim
theorem md_sindex : MtD K Z (fun x xs H Q => ∃ a b i rest, x = .str a ∧ xs = [.str b] ∧ Builtin.Str.occurrences a b 0 a.length 1 = i :: rest ∧ Q (.int (i : Nat)) H) oSIndex := by
  intro H0 H v w vs ws k Q e rv rvs o f
  unfold oSIndex at o
  split at o
  · obtain ⟨i, rest, h1, h2⟩ := o
    obtain ⟨y, rfl, ry⟩ := rvs.one
    exact ⟨_, _, i, rest, rv.str_of, by rw [ry.str_of], h1, f.same e .int h2⟩
  · exact o.elim
end

/-! ### slices of texts and of tuples -/
def dCutS (d : DE) (lo hi : DO) : DE := fun st k x => d st (fun r st1 => lo st1 (fun l st2 => hi st2 (fun h st3 => match r with
  | .w (.str z) => z.length ≤ sizeLine ∧ k (.w (.str (cutS z l h))) st3
  | .w (.tup ws) => k (.w (.tup (cutW ws l h))) st3
  | _ => False) x) x) x
section
variable {X : Cx} {Z : Zx} {E : XS} {e : Expr} {lo hi : Option Expr} {da : DE} {dlo dhi : DO} {pos p2 : Pos}
theorem pd_cutS (he : PD X Z E e da) (hl : POD X Z E lo dlo) (hu : POD X Z E hi dhi) : PD X Z E (.Subscript e (.Slice lo hi none p2) pos) (dCutS da dlo dhi) := by
  refine pe_weak (pe_slice (SlR.or sl_str sl_tupA) he hl hu) fun σ H Q q => ?_
  obtain ⟨H0, F, G, pv, st, k, kx, wd, ss, hd, hk, hx⟩ := q
  refine tE_seq wd ss hx hd fun H1 G1 H1' st1 v r e1 wd1 ss1 rr k1 => ?_
  refine ⟨H1, F, G1, pv, st1, _, kx, wd1, ss1, k1, fun H2 G2 H2' st2 l e2 wd2 ss2 k2 => ?_, hx.up e1⟩
  refine ⟨H2, F, G2, pv, st2, _, kx, wd2, ss2, k2, fun H3 G3 H3' st3 h e3 wd3 ss3 k3 => ?_, hx.up (e1.trans e2)⟩
  cases rr with
  | pk _ => exact k3.elim
  | w rv =>
    cases rv with
    | str => exact .inl ⟨_, rfl, k3.1, hk _ _ _ _ _ _ (e1.trans (e2.trans e3)) wd3 ss3 (.w .str) k3.2⟩
    | @tup _ xs ws hs rs =>
      have hs3 := Evl.ex_t (e2.trans e3) hs
      have rs3 := rs.mono (e2.trans e3)
      refine .inr ⟨_, _, rfl, Evl.ex_t wd3.ex hs3, fun hw => ?_, fun hw p hp => ?_⟩
      · refine hk _ _ _ _ _ _ (e1.trans (e2.trans e3)) wd3 ss3 (.w (.tup hs3 ?_)) k3
        have := rs3.cut l h
        unfold cutV at this
        rw [hw.1, hw.2, List.drop_zero, Nat.sub_zero, List.take_length] at this
        exact this
      · have g := Gr.one (o := .tup (cutV xs l h)) wd3.ex hp
        exact hk _ _ _ _ _ _ (e1.trans (e2.trans (e3.trans g.e0))) (wd3.grow g) (ss3.mono g.e0) (.w (.tup (.of upd_same) ((rs3.cut l h).mono g.e0))) k3
    | _ => exact k3.elim
end
end Y
namespace Y
open PySem L2
open PySem.Spec PyProof.Rows
open Evl (Ex)
/-! ### len(range(a, b)), len(range(n)) -/
section
variable {X : Cx} {Z : Zx} {E : XS} {a b : Expr} {da db : DE} {pos pr p1 p2 : Pos}
theorem cr_range1 : CallR X (.type "range") (fun vs H Q => ∃ j, vs = [V.int j] ∧ ∀ p, H p = none → Q (.ref p) (upd H p (.rng 0 j))) := by
  intro pins s σ H vs us Q I r h
  obtain ⟨j, rfl, q⟩ := h
  obtain ⟨u1, rfl, t, rfl⟩ := vals1 r
  refine call_range_1 ⟨.ref s.heap.objs.size, upd H s.heap.objs.size (.rng 0 j), I.laid (t' := s.toks + 1 + 1) (fun b o e => Heap.get?_push_of_some _ e) (Nat.le_refl _) ?_, rfl, q _ (I.hok.fresh (Nat.le_refl _))⟩
  exact ⟨_, _, _, Heap.get?_push_size _ rfl⟩
def rgN (i j : Int) : Int := if i < j then j - i else 0
def rLenRg : List V → Hp → VK → Prop := fun vs H Q => ∃ p i j, vs = [V.ref p] ∧ H p = some (.rng i j) ∧ j - i < 2 ^ 63 ∧ Q (.int (rgN i j)) H
theorem call_lenRg : CallR X (.builtin "len") rLenRg := by
  intro pins s σ H vs us Q I r h
  obtain ⟨p, i, j, rfl, hp, hb, q⟩ := h
  obtain ⟨u, rfl, ru⟩ := vals1 r
  cases ru
  obtain ⟨t, u, v, ho⟩ := I.hok p _ hp
  have e : Builtin.Range.rangeSize i j 1 = rgN i j := by
    unfold Builtin.Range.rangeSize rgN
    rw [if_pos (by decide)]
    split <;> simp
  have h0 : 0 ≤ rgN i j := by unfold rgN; split <;> omega
  have h1 : rgN i j < 2 ^ 63 := by unfold rgN; split <;> omega
  refine call_len_range (n := (rgN i j).toNat) ho (by rw [e]; omega) (by omega) ?_
  have e2 : (((rgN i j).toNat : Nat) : Int) = rgN i j := by omega
  rw [e2]
  exact ⟨.int (rgN i j), H, I.tok _, ⟨_, rfl⟩, q⟩
def dLenRg2 (a b : DE) : DE := fun st k x => a st (fun r1 st1 => b st1 (fun r2 st2 => match r1, r2 with
  | .w (.int i), .w (.int j) => j - i < 2 ^ 63 ∧ k (.w (.int (rgN i j))) st2
  | _, _ => False) x) x
def dLenRg1 (b : DE) : DE := fun st k x => b st (fun r2 st2 => match r2 with
  | .w (.int j) => j < 2 ^ 63 ∧ k (.w (.int (rgN 0 j))) st2
  | _ => False) x
theorem pd_lenRg2 (hg : Gl X "len") (hm : X.mg "len" = none) (hg2 : Gl X "range") (hm2 : X.mg "range" = none) (ha : PD X Z E a da) (hb : PD X Z E b db)
    (hs : starEach [a, b] X.env = (false, eval a X.env) :: starEach [b] X.env := by rfl) (hpl : (backTo pr (starEach [b] X.env)).any (·.1) = false := by rfl) (hs2 : starEach [b] X.env = (false, eval b X.env) :: starEach [] X.env := by rfl)
    (he : starEach [.Call (.Name "range" p2) [a, b] [] pr] X.env = (false, eval (.Call (.Name "range" p2) [a, b] [] pr) X.env) :: starEach [] X.env := by rfl) (hpl2 : (backTo pos (starEach [] X.env)).any (·.1) = false := by rfl) :
    PD X Z E (.Call (.Name "len" p1) [.Call (.Name "range" p2) [a, b] [] pr] [] pos) (dLenRg2 da db) := by
  refine pe_weak (pe_callB call_lenRg hg hm (by decide +kernel) (pa_cons (pe_callTy cr_range2 hg2 hm2 (by decide +kernel) (pa_cons ha (pa_cons hb pa_nil hs2) hs) (by decide) (by decide) hs hpl) pa_nil he) (by decide) (by decide) he hpl2) fun σ H Q q => ?_
  obtain ⟨H0, F, G, pv, st, k, kx, wd, ss, hd, hk, hx⟩ := q
  refine tE_seq wd ss hx hd fun H1 G1 H1' st1 v1 r1 e1 wd1 ss1 rr1 k1 => ?_
  refine tE_seq wd1 ss1 (hx.up e1) k1 fun H2 G2 H2' st2 v2 r2 e2 wd2 ss2 rr2 k2 => ?_
  cases rr1 with
  | pk _ => exact k2.elim
  | w rv1 =>
    cases rr2 with
    | pk _ => cases rv1 <;> exact k2.elim
    | w rv2 =>
      cases rv1 with
      | @int i =>
        cases rv2 with
        | @int j =>
          refine ⟨_, _, rfl, fun p hp => ⟨p, _, _, rfl, upd_same, k2.1, ?_⟩⟩
          have g := Gr.one (o := .rng i j) wd2.ex hp
          exact hk _ _ _ _ _ _ (e1.trans (e2.trans g.e0)) (wd2.grow g) (ss2.mono g.e0) (.w .int) k2.2
        | _ => exact k2.elim
      | _ => cases rv2 <;> exact k2.elim
theorem pd_lenRg1 (hg : Gl X "len") (hm : X.mg "len" = none) (hg2 : Gl X "range") (hm2 : X.mg "range" = none) (hb : PD X Z E b db)
    (hs2 : starEach [b] X.env = (false, eval b X.env) :: starEach [] X.env := by rfl) (hpl : (backTo pr (starEach [] X.env)).any (·.1) = false := by rfl)
    (he : starEach [.Call (.Name "range" p2) [b] [] pr] X.env = (false, eval (.Call (.Name "range" p2) [b] [] pr) X.env) :: starEach [] X.env := by rfl) (hpl2 : (backTo pos (starEach [] X.env)).any (·.1) = false := by rfl) :
    PD X Z E (.Call (.Name "len" p1) [.Call (.Name "range" p2) [b] [] pr] [] pos) (dLenRg1 db) := by
  refine pe_weak (pe_callB call_lenRg hg hm (by decide +kernel) (pa_cons (pe_callTy cr_range1 hg2 hm2 (by decide +kernel) (pa_cons hb pa_nil hs2) (by decide) (by decide) hs2 hpl) pa_nil he) (by decide) (by decide) he hpl2) fun σ H Q q => ?_
  obtain ⟨H0, F, G, pv, st, k, kx, wd, ss, hd, hk, hx⟩ := q
  refine tE_seq wd ss hx hd fun H2 G2 H2' st2 v2 r2 e2 wd2 ss2 rr2 k2 => ?_
  cases rr2 with
  | pk _ => exact k2.elim
  | w rv2 =>
    cases rv2 with
    | @int j =>
      refine ⟨_, rfl, fun p hp => ⟨p, _, _, rfl, upd_same, by have := k2.1; omega, ?_⟩⟩
      have g := Gr.one (o := .rng 0 j) wd2.ex hp
      exact hk _ _ _ _ _ _ (e2.trans g.e0) (wd2.grow g) (ss2.mono g.e0) (.w .int) k2.2
    | _ => exact k2.elim
end
end Y
namespace Y
open PySem L2
open PySem.Spec PyProof.Rows
open Evl (Ex)
/-! ### errors of one's own over any base -/
/-- the facts of a base -/
structure EB (B newId initId : String) (bmB : List Value) : Prop where
  fb : ExcBaseFacts B newId initId bmB
  sf : StoreFacts B bmB "object.__setattr__" "object"
  ty : typeOf (.type B) = pure (.type "type")
  stub : Manifest.isStub B = false
  hand : PySem.W.handedIn (.builtin initId) = true
  boot : bootBuiltins (Str.ofString B) = some (.type B)
  nn : Str.ofString B ≠ "__name__"
  nd : (Str.ofString B == ("__debug__" : Str)) = false
theorem eb_ValueError : EB "ValueError" "ValueError.__new__" "ValueError.__init__" [.type "ValueError", .type "Exception", .type "BaseException", .type "object"] := ⟨F.excBase_ValueError, F.store_ValueError, by kernel_rfl, by decide +kernel, by decide +kernel, by decide +kernel, by decide +kernel, by decide +kernel⟩
theorem eb_ArithmeticError : EB "ArithmeticError" "ArithmeticError.__new__" "ArithmeticError.__init__" [.type "ArithmeticError", .type "Exception", .type "BaseException", .type "object"] := ⟨F.excBase_ArithmeticError, F.store_ArithmeticError, by kernel_rfl, by decide +kernel, by decide +kernel, by decide +kernel, by decide +kernel, by decide +kernel⟩
theorem eb_LookupError : EB "LookupError" "LookupError.__new__" "LookupError.__init__" [.type "LookupError", .type "Exception", .type "BaseException", .type "object"] := ⟨F.excBase_LookupError, F.store_LookupError, by kernel_rfl, by decide +kernel, by decide +kernel, by decide +kernel, by decide +kernel, by decide +kernel⟩
theorem eb_IndexError : EB "IndexError" "IndexError.__new__" "IndexError.__init__" [.type "IndexError", .type "LookupError", .type "Exception", .type "BaseException", .type "object"] := ⟨F.excBase_IndexError, F.store_IndexError, by kernel_rfl, by decide +kernel, by decide +kernel, by decide +kernel, by decide +kernel, by decide +kernel⟩
theorem eb_RuntimeError : EB "RuntimeError" "RuntimeError.__new__" "RuntimeError.__init__" [.type "RuntimeError", .type "Exception", .type "BaseException", .type "object"] := ⟨F.excBase_RuntimeError, F.store_RuntimeError, by kernel_rfl, by decide +kernel, by decide +kernel, by decide +kernel, by decide +kernel, by decide +kernel⟩
theorem eb_ZeroDivisionError : EB "ZeroDivisionError" "ZeroDivisionError.__new__" "ZeroDivisionError.__init__" [.type "ZeroDivisionError", .type "ArithmeticError", .type "Exception", .type "BaseException", .type "object"] := ⟨F.excBase_ZeroDivisionError, F.store_ZeroDivisionError, by kernel_rfl, by decide +kernel, by decide +kernel, by decide +kernel, by decide +kernel, by decide +kernel⟩
/-- a class over it -/
structure OexK (K : PySem.W.Frag) (C : Addr) (bmB : List Value) (newId : String) : Prop where
  ini : PySem.W.excInitIn K C bmB newId = true
  ov : PySem.W.excOver K C bmB = true
  hd : PySem.W.hasDictIn K C = true
  sa : PySem.W.findIn K (.ref C) "__setattr__" = some (some (.builtin "object.__setattr__"))
  exC : PySem.W.subIn K (.ref C) (.type "BaseException") = some true
  tyC : PySem.W.typeIn K (.ref C) = some (.type "type")
  kC : PySem.W.keepIn K (.ref C) = true
section
variable {X : Cx} {pins : List (Addr × Obj)} {σ : L2.St} {H : Hp} {s : Shared} {a C dx : Addr} {f : Str} {y : V} {u : Value} {fs : List (Str × V)} {Q : Unit → Shared → Prop} {E : Value → Shared → Prop} {A : Around} {B newId initId : String} {bmB : List Value}
theorem taker_none {K : PySem.W.Frag} (h : PySem.W.findIn K (.ref C) f = some none) : PySem.W.takerIn K C f = some none := by
  unfold PySem.W.takerIn
  rw [h]
  rfl
/-- self.f = y, the first one -/
theorem est_new (eb : EB B newId initId bmB) (T : OexK X.K C bmB newId) (I : Inv X pins σ H s) (e : H a = some (exo a C none)) (hno : PySem.W.findIn X.K (.ref C) f = some none) (ry : RelV y u)
    (h : ∀ dx s', H dx = none → dx ≠ a → Inv X pins σ (upd (upd H dx (exd dx [(f, y)])) a (exo a C (some dx))) s' → Q () s') : wpAny (model X.prog X.w) A (setAttr (.ref a) f u) Q E s := by
  obtain ⟨t1, ho⟩ := exo_at I.hok e
  obtain ⟨cd, hc, hd'⟩ := PySem.W.any_some T.hd
  obtain ⟨hp, g, d, t, os⟩ := s
  have inst : PySem.W.InstAt hp a { cls := .ref C, dict := none, data := .fields #[.ref t1, .none, .none, .none, .bool false, .none] } C none := ⟨ho, rfl, rfl, trivial⟩
  have lt : a < hp.objs.size := Heap.lt_size ho
  refine PySem.W.set_plain I.kIn inst T.sa ?_
  refine PySem.W.osa_openX (od := none) eb.sf I.kIn inst T.ov (taker_none hno) fun b => ?_
  refine wpAny_bind (wpAny_pure (wpAny_bind (PySem.W.instanceDict_exc (c2 := .none) ho (PySem.W.looks_clsIn I.kIn hc) hd' ?_)))
  refine PySem.HandSPX.store_in_new ⟨_, #[], _, (Heap.get?_update_ne _ _ _ _ (Nat.ne_of_gt lt)).trans (Heap.get?_push_at rfl rfl), rfl, fun e he => absurd he (by simp), fun _ => rfl⟩ fun h' tk' hn hs => ?_
  have ha1 : (hp.push ({ cls := .type "dict", data := .dict #[] } : Obj)).get? a = some { cls := .ref C, dict := none, data := .fields #[.ref t1, .none, .none, .none, .bool false, .none] } := Heap.get?_push_of_some _ ho
  have k : ∀ b o, b ≠ a → hp.get? b = some o → h'.get? b = some o := fun b o hb hbo =>
    (hs.2 b (Nat.ne_of_lt (Heap.lt_size hbo))).trans ((Heap.get?_update_ne _ _ _ _ hb).trans (Heap.get?_push_of_some _ hbo))
  have hx : h'.get? a = some { cls := .ref C, dict := some hp.objs.size, data := .fields #[.ref t1, .none, .none, .none, .bool false, .none] } := (hs.2 a (Nat.ne_of_lt lt)).trans (Heap.get?_update_self _ ha1 rfl)
  have hnd : H hp.objs.size = none := I.hok.fresh (Nat.le_refl _)
  have far : ∀ {b : Addr} {o : Obj}, hp.get? b = some o → b ≠ hp.objs.size := fun q => Nat.ne_of_lt (Heap.lt_size q)
  have na : ∀ {b : Addr}, H b = none → b ≠ a := fun n z => by rw [z, e] at n; cases n
  have un : Un X.fs [] H (upd (upd H hp.objs.size (exd hp.objs.size [(f, y)])) a (exo a C (some hp.objs.size))) hp h' := {
    keep := fun b o q n _ _ => k b o (na n) q
    slot := fun b o q n _ _ => ⟨o.slots, k b o (na n) q⟩
    free := fun b o q n _ => by rw [upd_ne (na n), upd_ne (far q)]; exact n
    there := fun b o q _ => by
      by_cases hb : b = a
      · exact ⟨_, by rw [hb]; exact hx⟩
      · exact ⟨o, k b o hb q⟩
    tups := fun b xs q => by rw [upd_ne (at_ne e q exo_tup), upd_ne (ne_of_none q hnd)]; exact q
    frzs := fun b o v q => by rw [upd_ne (at_ne e q exo_frz), upd_ne (ne_of_none q hnd)]; exact q
    tbls := fun b ps q => ⟨#[], by rw [upd_ne (at_ne e q exo_tbl), upd_ne (ne_of_none q hnd), q]; simp⟩ }
  refine h hp.objs.size _ hnd (Nat.ne_of_gt lt) (I.un (t' := tk') un fun b o q => ?_)
  by_cases hb : b = a
  · subst hb
    rw [upd_same] at q
    cases q
    exact exo_ok hx
  · rw [upd_ne hb] at q
    by_cases hd : b = hp.objs.size
    · subst hd
      rw [upd_same] at q
      cases q
      exact exd_ok hn (relO_put (fs := []) ry fun g => True.intro)
    · rw [upd_ne hd] at q
      refine (I.hok b o q).stay (fun c v hc z => k c v ?_ z) (fun c hc => ?_) (fun c xs hc => ?_)
      · rcases hc with hc | hc
        · rw [hc]; exact hb
        · exact at_ne e hc exo_own
      · rw [upd_ne (at_ne e hc exo_own), upd_ne (ne_of_none hc hnd)]; exact hc
      · rw [upd_ne (at_ne e hc exo_tup), upd_ne (ne_of_none hc hnd)]; exact hc
/-- self.f = y, a further one -/
theorem est_old (eb : EB B newId initId bmB) (T : OexK X.K C bmB newId) (I : Inv X pins σ H s) (e : H a = some (exo a C (some dx))) (ed : H dx = some (exd dx fs)) (hl : fs.length ≤ 900) (hno : PySem.W.findIn X.K (.ref C) f = some none) (ry : RelV y u)
    (h : ∀ s', Inv X pins σ (upd H dx (exd dx ((f, y) :: fs))) s' → Q () s') : wpAny (model X.prog X.w) A (setAttr (.ref a) f u) Q E s := by
  obtain ⟨t1, ho⟩ := exo_at I.hok e
  obtain ⟨mA, hns, rel⟩ := exd_at I.hok ed
  have hw := within_of rel
  obtain ⟨cd, hc, hd'⟩ := PySem.W.any_some T.hd
  obtain ⟨hp, g, d, t, os⟩ := s
  obtain ⟨oD, _, _, hoD, _, _⟩ := hns.count hw
  have inst : PySem.W.InstAt hp a { cls := .ref C, dict := some dx, data := .fields #[.ref t1, .none, .none, .none, .bool false, .none] } C (some oD) := ⟨ho, rfl, rfl, hoD⟩
  refine PySem.W.set_plain I.kIn inst T.sa ?_
  refine PySem.W.osa_openX (od := some oD) eb.sf I.kIn inst T.ov (taker_none hno) fun b => ?_
  refine wpAny_bind (wpAny_pure (wpAny_bind (wpAny_bind (wpAny_loadPart ho ?_))))
  have L : PySem.W.Looks (model X.prog X.w) hp (classData C) cd := PySem.W.looks_clsIn I.kIn hc
  refine wpAny_bind (L.at ?_)
  rw [hd']
  refine wpAny_pure (a := some dx) ?_
  refine PySem.OEX.store_in_old hns hw (by rw [List.length_map]; omega) fun h' tk' hn hs => ?_
  have there : ∃ o, h'.get? dx = some o := by
    obtain ⟨o, _, _, e', _⟩ := hn
    exact ⟨o, e'⟩
  exact h _ (I.write (t' := tk') (x := dx) (e := dx) (o := exd dx ((f, y) :: fs)) (by rw [ed]; exact True.intro) (.inl rfl) (fun b o hb hbo => (hs.2 b hb).trans hbo) there (exd_ok hn (relO_put ry rel)))
/-- B.__init__(self, ..): nothing of it is told -/
theorem einit_ok {us : List Value} {Q : Value → Shared → Prop} (eb : EB B newId initId bmB) (T : OexK X.K C bmB newId) (I : Inv X pins σ H s) (e : H a = some (exo a C none)) (hl : us.length ≤ sizeLine) (h : ∀ s', Inv X pins σ H s' → Q .none s') :
    wpAny (model X.prog X.w) A (call (.builtin initId) (.ref a :: us)) Q E s := by
  obtain ⟨nm, N, q, bs, bm, hdct, sn, sub, ab, col, dd, k0, k1, k2, k3, k5, hC, hT⟩ := PySem.W.excInit_of I.kIn T.ini
  obtain ⟨t1, ho⟩ := exo_at I.hok e
  obtain ⟨hp, g, d, t, os⟩ := s
  refine wpAny_call (PySem.HandSPX.init_base eb.fb hT hC ho hl fun h' t2 k hx => ?_)
  have J := I.write (t' := t) (x := a) (e := a) (o := exo a C none) (by rw [e]; exact True.intro) (.inl rfl) k ⟨_, hx⟩ (exo_ok hx)
  have same : upd H a (exo a C none) = H := by
    funext b
    by_cases hb : b = a
    · rw [hb, upd_same, e]
    · rw [upd_ne hb]
  rw [same] at J
  exact h _ J
end
end Y
namespace Y
open PySem L2
open PySem.Spec PyProof.Rows
open Evl (Ex)

/-! ### an error's __init__, and its making -/
section
variable {X : Cx} {o e : Expr} {es : List Expr} {to te : TE} {ta : TA} {f : Str} {p p' p1 p2 pos : Pos} {B newId initId : String} {bmB : List Value}
/-- B.__init__(self, ..) -/
def tBi (K : PySem.W.Frag) (bmB : List Value) (newId : String) (ta : TA) : TE := fun σ H Q => ta σ H fun vs H1 => ∃ (a C : Addr) (ws : List V), vs = .ref a :: ws ∧ ws.length ≤ 1000 ∧ OexK K C bmB newId ∧ H1 a = some (exo a C none) ∧ Q .non H1
/-- self.f = e -/
def tEs (K : PySem.W.Frag) (bmB : List Value) (newId : String) (f : Str) (to te : TE) : TS := fun D σ H => te σ H fun y H1 => to σ H1 fun x H2 => ∃ a C : Addr, x = .ref a ∧ OexK K C bmB newId ∧ PySem.W.findIn K (.ref C) f = some none ∧
  ((H2 a = some (exo a C none) ∧ ∀ dx, H2 dx = none → dx ≠ a → D.nx σ (upd (upd H2 dx (exd dx [(f, y)])) a (exo a C (some dx)))) ∨
    ∃ (dx : Addr) (fs : List (Str × V)), H2 a = some (exo a C (some dx)) ∧ H2 dx = some (exd dx fs) ∧ fs.length ≤ 900 ∧ D.nx σ (upd H2 dx (exd dx ((f, y) :: fs))))
theorem pe_binit {pl : Sem Bool} (eb : EB B newId initId bmB) (hg : Gl X (Str.ofString B)) (hm : X.mg (Str.ofString B) = none) (vV : PySem.W.findCls X.K (.type B) (.type "type") "__init__" = some (.val (.builtin initId))) (ha : PA X (e :: es) ta)
    (hc : eval (.Call (.Attribute (.Name (Str.ofString B) p1) "__init__" p2) (e :: es) [] pos) X.env = (do
      let ov ← eval (.Name (Str.ofString B) p1) X.env
      standAt p2.atName
      let (f, first) ← holding [ov] (getMethod ov "__init__" pl)
      callWith pos f first (backTo pos (starEach (e :: es) X.env)) (backToKw pos (keywordEach [] X.env))) := by rfl)
    (he : starEach (e :: es) X.env = (false, eval e X.env) :: starEach es X.env := by rfl) (hpl : (backTo pos (starEach es X.env)).any (·.1) = false := by rfl) :
    PE X (.Call (.Attribute (.Name (Str.ofString B) p1) "__init__" p2) (e :: es) [] pos) (tBi X.K bmB newId ta) := by
  refine ⟨fun pins s σ H Q I h => ?_⟩
  refine PySem.W.methodCall_KW (ld_blt I hg hm eb.boot ?_ eb.nn eb.nd) hc
  obtain ⟨m, fr⟩ := I.fr
  refine PySem.W.method_type fr I.ok.mod.kin eb.ty eb.stub vV eb.hand ?_
  show wpAny _ _ (callWith pos (Value.builtin initId) [] (backTo pos (starEach (e :: es) X.env)) []) _ _ _
  refine PyProof.Rows.callWith_method1 (thn (ha.run pos pins _ σ H _ (I.tok _) h) fun us s1 ⟨vs, H1, I1, r1, a, C, ws, ev, hl, T, ea, q⟩ => ?_) he hpl
  subst ev
  cases r1 with
  | @cons _ u0 _ ur ra rw' =>
    obtain rfl : u0 = Value.ref a := ra
    have hlen : ur.length ≤ sizeLine := by
      rw [← Paired.length rw', sizeLine_eq]
      omega
    exact einit_ok eb T I1 ea hlen fun s' J => ⟨.non, H1, J, rfl, q⟩
theorem ps_est (eb : EB B newId initId bmB) (ho : PE X o to) (he : PE X e te) (hs : swapsWith e (some (.Attribute o f p')) pos.line X.env = pure false := by rfl) : PS X (.Assign [.Attribute o f p'] e pos) (tEs X.K bmB newId f to te) := by
  refine ⟨fun pins s σ H D I h => ?_⟩
  refine plainObj_wpAny_Assign_Attribute (thn (he.run pins s σ H _ I h) fun v s1 ⟨y, H1, I1, r1, q1⟩ => thn (ho.run pins s1 σ H1 _ I1 q1) fun u s2 ⟨x, H2, I2, r2, a, C, ex, T, hno, q⟩ => ?_) hs
  subst ex
  obtain rfl : u = Value.ref a := r2
  rcases q with ⟨ea, q⟩ | ⟨dx, fs, ea, ed, hl, q⟩
  · exact est_new eb T I2 ea hno r1 fun dx s' n ne J => ⟨σ, _, J, q dx n ne⟩
  · exact est_old eb T I2 ea ed hl hno r1 fun s' J => ⟨σ, _, J, q⟩
theorem pmk_oexK {CX : CXT} {x : Str} {C fI : Addr} {k : Nat} {fd : FuncData} {ps : List Str} {sp : Sp} {ds : List Value} {dvs : List V} (eb : EB B newId initId bmB) (T : OexK X.K C bmB newId) (iC : PySem.W.findIn X.K (.ref C) "__init__" = some (some (.ref fI))) (tI : PySem.W.typeIn X.K (.ref fI) = some (.type "function"))
    (F1 : FnOk X.prog X.w X.K X.mg X.base CX k fI fd ps sp) (hr : Room (k + 1) X.A) (hb : Binds X.K fd ps ds) (hd : Vals dvs ds) (hx : Passes CX X (fun _ _ _ => False)) (hg : Gl X x) (hm : X.mg x = some (.ref C)) (ha : PA X (e :: es) ta)
    (hdb : (x == ("__debug__" : Str)) = false := by decide) (he : starEach (e :: es) X.env = (false, eval e X.env) :: starEach es X.env := by rfl) (hpl : (backTo pos (starEach es X.env)).any (·.1) = false := by rfl) :
    PMk X (.Call (.Name x p) (e :: es) [] pos) (tMkO C sp dvs ta) := by
  intro pins s σ H Q I h
  obtain ⟨nm, N, q, bs, bm, hdct, sn, sub, ab, col, dd, k0, k1, k2, k3, k5, hC, hT⟩ := PySem.W.excInit_of I.kIn T.ini
  refine wpAny_Call_Name_kw (ld_glob I hg hm ?_ hdb)
  refine PySem.W.callWith_K (h₀ := X.base) I.ok.mod.kin T.kC (thn (ha.run pos pins s σ H _ I h) fun us s1 ⟨vs, H1, I1, r1, hz, q1⟩ => ⟨I1.kIn, ?_⟩) he hpl
  obtain ⟨nm, N, q, bs, bm, hdct, sn, sub, ab, col, dd, k0, k1, k2, k3, k5, hC, hT⟩ := PySem.W.excInit_of I1.kIn T.ini
  show wpAny _ _ (call (.ref C) us) _ _ _
  obtain ⟨hp, g, dr, tk, os⟩ := s1
  have hsz : hp.objs.size ≤ hp.objs.size + 1 := Nat.le_succ _
  have hn : H1 (hp.objs.size + 1) = none := I1.hok.fresh hsz
  have hq := q1 (hp.objs.size + 1) hn
  have kk : ∀ b o, hp.get? b = some o → ((hp.push (PySem.W.kdv_tup us)).push (PySem.HandSPX.excO C hp.objs.size)).get? b = some o := fun b o e => Heap.get?_push_of_some _ (Heap.get?_push_of_some _ e)
  have hget : ((hp.push (PySem.W.kdv_tup us)).push (PySem.HandSPX.excO C hp.objs.size)).get? (hp.objs.size + 1) = some (PySem.HandSPX.excO C hp.objs.size) := by heap_get
  have I2 : Inv X pins σ (upd H1 (hp.objs.size + 1) (exo (hp.objs.size + 1) C none)) ⟨(hp.push (PySem.W.kdv_tup us)).push (PySem.HandSPX.excO C hp.objs.size), g, dr, tk, os⟩ :=
    I1.laid (t' := tk) (a := hp.objs.size + 1) (o := exo (hp.objs.size + 1) C none) (h' := (hp.push (PySem.W.kdv_tup us)).push (PySem.HandSPX.excO C hp.objs.size)) kk hsz (exo_ok hget)
  have r2 : Vals (V.ref (hp.objs.size + 1) :: (vs ++ dvs)) (Value.ref (hp.objs.size + 1) :: (us ++ ds)) := .cons rfl (r1.append hd)
  have hl : (Value.ref (hp.objs.size + 1) :: us ++ ds).length = ps.length := by
    have e := r2.length
    rw [F1.len _ _ _ _ hq] at e
    exact e.symm
  have hus : us.length ≤ sizeLine := by
    rw [← Paired.length r1, sizeLine_eq]
    omega
  refine wpAny_call (PySem.HandSPX.call_own eb.fb hT hC (PySem.W.looks_findIn I1.kIn iC) (fun self => PySem.W.bind_fn I1.kIn self tI) hus
    (codeAny_mono (F1.run _ X.stack _ _ ⟨Value.ref (hp.objs.size + 1) :: us, []⟩ (Value.ref (hp.objs.size + 1) :: (us ++ ds)) _ _ (fun _ _ _ => False) (hr.make C us []) (I2.env0.make C us []) (hb _ (Value.ref (hp.objs.size + 1) :: us) I2.kIn hl) r2 hq) fun r s' hq' => ?_))
  cases r with
  | error er => exact hx pins σ _ _ er s' I2 hq'
  | ok fl =>
    cases fl with
    | ret u =>
      obtain ⟨v, H2, os2, bare2, un2, hok2, rv, ev, d, fs, ea, ed, hd1, q2⟩ := hq'
      subst ev
      obtain ⟨h2, g2, d2, t2, os'⟩ := s'
      exact ⟨rv, mk_end (raises_own T.exC T.tyC) I1 hsz kk un2 hok2 os2 bare2 ea ed hd1 q2⟩
    | next => exact False.elim hq'
    | brk => exact False.elim hq'
    | cont => exact False.elim hq'
end
/-- the promise of an error's __init__ that stores its arguments -/
def spE (C : Addr) (fs : List Str) : Sp := fun vs H Q _ => ∃ (a : Addr) (ys : List V), vs = .ref a :: ys ∧ ys.length = fs.length ∧ H a = some (exo a C none) ∧ match fs, ys with
  | [f], [y] => ∀ dx, H dx = none → dx ≠ a → Q .non (upd (upd H dx (exd dx [(f, y)])) a (exo a C (some dx)))
  | [f, g], [y, z] => ∀ dx, H dx = none → dx ≠ a → Q .non (upd (upd (upd H dx (exd dx [(f, y)])) a (exo a C (some dx))) dx (exd dx [(g, z), (f, y)]))
  | _, _ => False
theorem spE_len {C : Addr} {fs : List Str} {vs : List V} {H : Hp} {Q : VK} {E : XK} (h : spE C fs vs H Q E) : vs.length = fs.length + 1 := by
  obtain ⟨a, ys, rfl, hl, _⟩ := h
  rw [List.length_cons, hl]
/-- raise C(..) -/
def dRaise (c : Nat) (a : DA) : DS := fun D st => a st (fun rs st1 => match frs' rs with
  | some ws => ws.length = (fldN c).length ∧ D.ex ⟨c, ws.reverse⟩ st1
  | none => False) D.ex
/-- raise C('..') of a class without fields -/
def dRaise0 (c : Nat) : DS := fun D st => D.ex ⟨c, []⟩ st
section
variable {X : Cx} {Z : Zx} {E : XS} {e : Expr} {es : List Expr} {ds : DA} {p p2 pos pos' : Pos} {x : Str} {C : Addr} {c : Nat} {B newId initId : String} {bmB : List Value}
theorem takes_E (tk : Takes X fun cls d σ H => E cls d σ H) : Takes X fun cls d σ H => E cls d σ H := tk
theorem del_end {H : Hp} {a dx : Addr} {o u v w : HO} (ha : H a = none) (hd : dx ≠ a) : upd (del (upd (upd (upd H a o) dx u) a v) a) dx w = upd H dx w := by
  funext b
  by_cases h1 : b = dx
  · rw [h1, upd_same, upd_same]
  · rw [upd_ne h1, upd_ne h1]
    by_cases h2 : b = a
    · rw [h2, del_same, ha]
    · rw [del_ne h2, upd_ne h2, upd_ne h1, upd_ne h2]
theorem del_end2 {H : Hp} {a dx : Addr} {o u v u2 w : HO} (ha : H a = none) (hd : dx ≠ a) : upd (del (upd (upd (upd (upd H a o) dx u) a v) dx u2) a) dx w = upd H dx w := by
  funext b
  by_cases h1 : b = dx
  · rw [h1, upd_same, upd_same]
  · rw [upd_ne h1, upd_ne h1]
    by_cases h2 : b = a
    · rw [h2, del_same, ha]
    · rw [del_ne h2, upd_ne h1, upd_ne h2, upd_ne h1, upd_ne h2]
theorem z_raise {CX : CXT} {fI : Addr} {k : Nat} {fd : FuncData} {ps : List Str} {fs : List Str} (eb : EB B newId initId bmB) (T : OexK X.K C bmB newId) (hC : Z.cls c = C) (h12 : fs.length = 1 ∨ fs.length = 2) (hf : fldN c = fs.reverse) (iC : PySem.W.findIn X.K (.ref C) "__init__" = some (some (.ref fI))) (tI : PySem.W.typeIn X.K (.ref fI) = some (.type "function"))
    (F1 : FnOk X.prog X.w X.K X.mg X.base CX k fI fd ps (spE C fs)) (hr : Room (k + 1) X.A) (hb : Binds X.K fd ps []) (hx : Passes CX X (fun _ _ _ => False)) (hg : Gl X x) (hm : X.mg x = some (.ref C)) (hc : X.calm = true) (tk : Takes X fun cls d σ H => E cls d σ H) (ha : PAD X Z E (e :: es) ds)
    (hdb : (x == ("__debug__" : Str)) = false := by decide) (he : starEach (e :: es) X.env = (false, eval e X.env) :: starEach es X.env := by rfl) (hpl : (backTo pos (starEach es X.env)).any (·.1) = false := by rfl) :
    PZ X Z E (.Raise (some (.Call (.Name x p) (e :: es) [] pos)) none pos') (dRaise c ds) := by
  subst hC
  refine ps_weak (ps_raise hc tk (pmk_oexK eb T iC tI F1 hr hb .nil hx hg hm ha hdb he hpl)) fun D σ H q => ?_
  obtain ⟨H0, F, G, pv, st, DD, wd, ss, hd, acc⟩ := q
  refine tA_seq wd ss acc.ex.at hd fun H1 G1 H1' st1 vs rs e1 wd1 ss1 rr k1 => ?_
  cases q1 : frs' rs with
  | none => rw [q1] at k1; exact k1.elim
  | some ws =>
    rw [q1] at k1
    obtain ⟨hl, k1⟩ := k1
    have rws := rr.frs q1
    have hvl : vs.length = fs.length := by rw [rws.length, hl, hf, List.length_reverse]
    have fin : ∀ (dx : Addr) (kv : List (Str × V)), H1' dx = none → kv.map (·.1) = fs.reverse → kv.map (·.2) = vs.reverse → E (.ref (Z.cls c)) (some dx) σ (upd H1' dx (.xd kv)) := fun dx kv hn h1 h2 => by
      have g := Gr.one (o := .xd kv) wd1.ex hn
      refine acc.ex _ _ _ _ _ _ _ ⟨c, ws.reverse⟩ (e1.trans g.e0) (wd1.grow g) (ss1.mono g.e0) ⟨rfl, .inr ⟨dx, kv, rfl, upd_same, by rw [h1, hf], ?_⟩⟩ k1
      rw [h2]
      exact (rws.mono g.e0).reverse
    refine ⟨?_, fun a han => ?_⟩
    · have : (fldN c).length ≤ 10 := by
        unfold fldN
        split <;> decide
      rw [hvl, ← List.length_reverse, ← hf]
      omega
    · rw [List.append_nil]
      refine ⟨a, vs, rfl, hvl, upd_same, ?_⟩
      match fs, vs, hvl, fin with
      | [f], [y], _, fin =>
        intro dx hdx hne
        rw [upd_ne hne] at hdx
        refine ⟨rfl, dx, [(f, y)], upd_same, by rw [upd_ne hne, upd_same], hdx, ?_⟩
        rw [del_end han hne]
        exact fin dx [(f, y)] hdx rfl rfl
      | [f, g], [y, z], _, fin =>
        intro dx hdx hne
        rw [upd_ne hne] at hdx
        refine ⟨rfl, dx, [(g, z), (f, y)], by rw [upd_ne (Ne.symm hne), upd_same], upd_same, hdx, ?_⟩
        rw [del_end2 han hne]
        exact fin dx [(g, z), (f, y)] hdx rfl rfl
      | [], [], _, fin => rcases h12 with h | h <;> cases h
      | _ :: _ :: _ :: _, _ :: _ :: _ :: _, _, fin => rcases h12 with h | h <;> simp at h
end
end Y
namespace Y
open PySem L2
open PySem.Spec PyProof.Rows
open Evl (Ex)

/-! ### try: an error that was caught is read alone from then on -/
section
variable {X : Cx} {pins : List (Addr × Obj)} {σ : L2.St} {H : Hp} {s : Shared} {a : Addr} {o : HO}
/-- a thing that stands there is tracked from now on -/
theorem Inv.track (I : Inv X pins σ H s) (na : H a = none) (n0 : X.s_0.heap.get? a = none) (nL : X.env.locals ≠ a) (nC : ∀ x c, X.env.cells.lookup x = some c → c ≠ a) (nP : ∀ p ∈ X.pn ++ pins, p.1 ≠ a) (new : ObjOk X.prog X.w (upd H a o) s.heap a o) : Inv X pins σ (upd H a o) s where
  ok := I.ok
  os := I.os
  bare := I.bare
  base := {
    keep := I.base.keep
    slot := I.base.slot
    free := fun b u q n hx => by
      rw [upd_ne (fun z => by rw [z, n0] at q; cases q)]
      exact I.base.free b u q n hx
    there := I.base.there
    tups := fun b xs q => by
      have q' := I.base.tups b xs q
      rw [upd_ne (ne_of_none q' na)]; exact q'
    frzs := fun b u v q => by
      have q' := I.base.frzs b u v q
      rw [upd_ne (ne_of_none q' na)]; exact q'
    tbls := fun b ps q => by
      obtain ⟨more, q'⟩ := I.base.tbls b ps q
      exact ⟨more, by rw [upd_ne (ne_of_none q' na)]; exact q'⟩ }
  loc := I.loc
  cell := I.cell
  free := by rw [upd_ne nL]; exact I.free
  freeC := fun x c e => by rw [upd_ne (nC x c e)]; exact I.freeC x c e
  pin := fun p hp => by
    obtain ⟨h1, h2, h3⟩ := I.pin p hp
    exact ⟨h1, by rw [upd_ne (nP p hp)]; exact h2, h3⟩
  hok := fun b u e => by
    by_cases hb : b = a
    · subst hb
      rw [upd_same] at e
      cases e
      exact new
    · rw [upd_ne hb] at e
      exact (I.hok b u e).stay (fun c v _ q => q) (fun c q => by rw [upd_ne (ne_of_none q na)]; exact q) fun c xs q => by rw [upd_ne (ne_of_none q na)]; exact q
  len := I.len
theorem exH_ok {P : Program} {w : World} {h : Heap} {cls : Value} {d : Option Addr} {oe : Obj} {vs : Array Value} (he : h.get? a = some oe) (hz : Zc cls d oe) (hd : oe.data = .fields vs) : ObjOk P w H h a (exH a cls d) :=
  ⟨⟨oe, vs, he, hz, hd⟩, ⟨oe, he⟩, fun h1 h2 ⟨u, v, q, r⟩ k => ⟨u, v, k u q, r⟩⟩
theorem exH_at (I : Inv X pins σ H s) {cls : Value} {d : Option Addr} (e : H a = some (exH a cls d)) : ∃ oe vs, s.heap.get? a = some oe ∧ Zc cls d oe ∧ oe.data = .fields vs := (show ObjOk X.prog X.w H s.heap a (.ext _) from I.hok a _ e).1
theorem Inv.suiteN (I : Inv X pins σ H s) (a : Addr) : Inv (X.suite a (X.pn ++ pins)) [] σ H s := ⟨I.ok.suite _ _, I.os, I.bare, I.base, I.loc, I.cell, I.free, I.freeC, fun p hp => I.pin p (by rw [List.append_nil] at hp; exact hp), I.hok, I.len⟩
theorem Inv.unsuiteN {pn' : List (Addr × Obj)} (I : Inv (X.suite a (X.pn ++ pins)) pn' σ H s) (ok : X.Ok) : Inv X pins σ H s := ⟨ok, I.os, I.bare, I.base, I.loc, I.cell, I.free, I.freeC, fun p hp => I.pin p (List.mem_append_left _ hp), I.hok, I.len⟩
theorem flies {B h h' : Heap} {l : List Env} {Zp : Obj → Prop} (x : HandSPX.FlyingZ B l a Zp h) (k : ∀ c u, h.get? c = some u → h'.get? c = some u) : HandSPX.FlyingZ B l a Zp h' := by
  obtain ⟨k1, k2, k3, oe, vs, T, oT, ts, e1, e2, e3, e4, e5, e6, e7, e8⟩ := x
  exact ⟨fun b o e => k b o (k1 b o e), k2, Heap.FunFrames.of_keeps (fun b o e _ => ⟨o, k b o e, rfl⟩) k3, oe, vs, T, oT, ts, k _ _ e1, e2, e3, e4, e5, e6, k _ _ e7, e8⟩
theorem takes_noneE {X : Cx} : Takes X E0s := fun _ _ ⟨_, _, _, _, _, _, _, _, _, _, _, _, _, _, _, _, w⟩ => w.elim
/-- what a clause's words tell of an error's class -/
structure ClT (X : Cx) (t : Expr) (m : Value → Option Bool) : Prop where
  run : ∀ {pn pins : List (Addr × Obj)} {σ : L2.St} {H : Hp} {s : Shared} {a : Addr} {oe : Obj} {b : Bool} {Q : Bool → Shared → Prop} {E : Value → Shared → Prop}, Inv (X.suite a pn) pins σ H s → s.heap.get? a = some oe → m oe.cls = some b →
    (∀ h' tk, (∀ c u, s.heap.get? c = some u → h'.get? c = some u) → Q b { s with heap := h', toks := tk }) →
    wpAny (model X.prog X.w) (X.A.mark (some (.ref a))) (eval t X.env) (fun c s1 => wpAny (model X.prog X.w) (X.A.mark (some (.ref a))) (excMatches (.ref a) c) Q E s1) E s
theorem cl_one {x : Str} {c : Value} {p : Pos} (hc : Names X x c) : ClT X (.Name x p) (fun v => PySem.W.exmOne X.K v c) := by
  refine ⟨fun {pn pins σ H s a oe b Q E} I ha hb h => ?_⟩
  have LT : PySem.W.Looks (model X.prog X.w) s.heap (typeOf (.ref a)) oe.cls := fun A Q E s k q => wpAny_typeOf_ref (k _ _ ha) q
  have LM := PySem.W.exm_one (M := model X.prog X.w) I.kIn LT hb
  have test : ∀ {Q : Value → Shared → Prop} {E : Value → Shared → Prop}, Q c s → wpAny (model X.prog X.w) (X.A.mark (some (.ref a))) (eval (.Name x p) X.env) Q E s := fun {Q E} q => by
    obtain ⟨hg, hdbg, hm | ⟨hm, hv, hnn⟩⟩ := hc
    · exact ld_glob I hg hm q hdbg
    · exact ld_blt I hg hm hv q hnn hdbg
  exact test (LM.here (h s.heap s.toks fun _ _ q => q))
/-- the ends of a clause's suite whose name goes -/
def gone (D : Ends) (i : Nat) : Ends := { nx := fun σ H => D.nx (σ.set i none) H, rt := D.rt, bk := fun σ H => D.bk (σ.set i none) H, ct := fun σ H => D.ct (σ.set i none) H }
abbrev Cl := (Value → Option Bool) × Option Nat × TS
/-- what the clauses wish of an error -/
def wCl (Wout : WX) (D : Ends) : List Cl → WX
  | [] => Wout
  | (m, none, ts) :: r => fun cls d σ H => ∃ b, m cls = some b ∧ (b = true → ∀ a, H a = none → ts D σ (upd H a (exH a cls d))) ∧ (b = false → wCl Wout D r cls d σ H)
  | (m, some i, ts) :: r => fun cls d σ H => ∃ b, m cls = some b ∧ (b = true → ∀ a, H a = none → ts (gone D i) (σ.set i (some (.ref a))) (upd H a (exH a cls d))) ∧ (b = false → wCl Wout D r cls d σ H)
inductive HdsO (X : Cx) : List ExceptHandler → List Cl → Prop
  | nil : HdsO X [] []
  | no {t : Expr} {m : Value → Option Bool} {ts : TS} {b₀ : Stmt} {su : List Stmt} {pos' : Pos} {hds : List ExceptHandler} {l : List Cl} (hc : ClT X t m) (hsu : ∀ a pn, PSs (X.suite a pn) (b₀ :: su) ts) (r : HdsO X hds l) : HdsO X (.ExceptHandler (some t) none (b₀ :: su) pos' :: hds) ((m, none, ts) :: l)
  | as {t : Expr} {m : Value → Option Bool} {ts : TS} {b₀ : Stmt} {su : List Stmt} {pos' : Pos} {hds : List ExceptHandler} {l : List Cl} {n : Str} {i : Nat} (hc : ClT X t m) (hi : X.N[i]? = some n) (hln : X.env.kindOf n = some .local) (hsu : ∀ a pn, PSs (X.suite a pn) (b₀ :: su) ts) (r : HdsO X hds l) :
      HdsO X (.ExceptHandler (some t) (some n) (b₀ :: su) pos' :: hds) ((m, some i, ts) :: l)
end
section
variable {X : Cx} {body orelse : List Stmt} {h₀ : ExceptHandler} {hds : List ExceptHandler} {l : List Cl} {pos : Pos} {tb : WX → TS} {u : TS} {Wout : WX}
theorem ps_tryO (ho : PSs X orelse u) (hs : X.stack = X.env :: X.outer) (hf : X.env.frame = some X.env.locals) (hN : X.N.Nodup) (hex : X.ex = []) (tk : Takes X Wout)
    (hb : ∀ (W : WX) (pn : List (Addr × Obj)) (xe : Value → Shared → Prop), Takes (X.tr pn xe) W → PassesOwn (model X.prog X.w) X.A X.env xe → PSs (X.tr pn xe) body (tb W))
    (hh : HdsO X (h₀ :: hds) l) : PS X (.Try body (h₀ :: hds) orelse [] pos) (fun D σ H => tb (wCl Wout D l) { D with nx := u D } σ H) := by
  refine ⟨fun pins s σ H D I h => ?_⟩
  have ok := I.ok
  have hfr : X.A.frames = some (X.env :: X.outer) := by rw [ok.frames, hs]
  refine wpAny_Try_except ?_
  refine wpAny_mono ((hb (wCl Wout D l) (X.pn ++ pins) (fun e s₁ => wpAny (model X.prog X.w) X.A (noteFrame e X.env) (fun _ s₂ => wpAny (model X.prog X.w) X.A (setFlight e none) (fun _ s₃ =>
    wpAny (model X.prog X.w) X.A (handleBy e X.env (h₀ :: hds)) (SP X pins D) X.xe s₃) X.xe s₂) X.xe s₁) (fun u s' xx => ?_) PassesOwn.looking).run [] s σ H { D with nx := u D } (I.toTry _) h) (fun f s1 hsp => ?_) fun e s1 he => he
  rotate_left
  · cases f with
    | next =>
      obtain ⟨σ', H', J', q⟩ := hsp
      exact ho.run pins s1 σ' H' D (J'.ofTry ok) q
    | brk =>
      obtain ⟨σ', H', J', q⟩ := hsp
      exact ⟨σ', H', J'.ofTry ok, q⟩
    | cont =>
      obtain ⟨σ', H', J', q⟩ := hsp
      exact ⟨σ', H', J'.ofTry ok, q⟩
    | ret u =>
      obtain ⟨v, σ', H', J', r, q⟩ := hsp
      exact ⟨v, σ', H', J'.ofTry ok, r, q⟩
  · obtain ⟨a, B, sI, pins', σ', H', cls, d, rfl, J', nb, up, sky, na, os, ag, w⟩ := xx
    have J : Inv X pins σ' H' sI := J'.ofTry ok
    have sky' : Sky B (X.env :: X.outer) a (Zc cls d) X.env.locals s'.heap := by rw [← hs]; exact sky
    show wpAny (model X.prog X.w) X.A (noteFrame (.ref a) X.env) _ _ _
    refine Sky.land Zc.steady hfr hf sky' fun h3 fl3 up3 => ?_
    obtain ⟨oe3, vs3, he3, hz3, hd3⟩ := fl3.there
    have aF : a ∉ frs (X.env :: X.outer) := fun hm => by
      obtain ⟨_, o', e', hnf⟩ := fl3.2.2.1.mem hm
      rw [he3] at e'
      cases e'
      exact hnf _ hd3
    have nL : X.env.locals ≠ a := fun z => aF (List.mem_filterMap.mpr ⟨X.env, List.mem_cons_self, by rw [hf, z]⟩)
    have nI : sI.heap.get? a = none := by
      cases q : sI.heap.get? a with
      | none => rfl
      | some o =>
        have z := nb a o q (by rw [hs]; exact aF)
        rw [fl3.2.1] at z
        cases z
    have n0 : X.s_0.heap.get? a = none := by
      cases q : X.s_0.heap.get? a with
      | none => rfl
      | some o =>
        obtain ⟨o', z⟩ := J.base.there a o q (by rw [hex]; exact fun z => nomatch z)
        rw [nI] at z
        cases z
    have nP : ∀ p ∈ X.pn ++ pins, p.1 ≠ a := fun p hp z => by
      have z' := (J.pin p hp).1
      rw [z, nI] at z'
      cases z'
    have nC : ∀ x c, X.env.cells.lookup x = some c → c ≠ a := fun x c e z => by
      obtain ⟨v, o, z', _⟩ := J.cell x c e
      rw [z, nI] at z'
      cases z'
    have go : ∀ {hds' : List ExceptHandler} {l' : List Cl} {s3 : Shared}, HdsO X hds' l' → wCl Wout D l' cls d σ' H' → HandSPX.FlyingZ B (X.env :: X.outer) a (Zc cls d) s3.heap → sI.heap.UpToSlots s3.heap → s3.os = sI.os → AllBare s3.gens →
        wpAny (model X.prog X.w) X.A (handleBy (.ref a) X.env hds') (SP X pins D) X.xe s3 := by
      intro hds' l' s3 hk
      induction hk generalizing s3 with
      | nil =>
        intro w fl up os ag
        refine wpAny_handleBy_nil ?_
        obtain ⟨_, _, _, oe, vs, T, oT, ts', he, hz, hd, h1, _⟩ := id fl
        unfold PySem.passOn
        refine wpAny_bind (wpAny_field he hd h1 ?_)
        rw [if_neg (show ¬ ((Value.ref T == Value.none) = true) from by simp)]
        have fin : wpAny (model X.prog X.w) X.A (setFlight (.ref a) X.env.frame) (fun _ s4 => wpAny (model X.prog X.w) X.A (throw (.ref a) : Sem Flow) (SP X pins D) X.xe s4) X.xe s3 := by
          rw [hf]
          refine HandSPX.setFlight_upZ fl fun h4 held up4 => wpAny_throw (tk _ _ ?_)
          refine ⟨a, B, sI, pins, σ', H', cls, d, rfl, J, nb, up.trans up4, .inr (.inr ?_), na, os, ag, w⟩
          rw [hs]
          exact held
        first
          | exact wpAny_bind fin
          | exact wpAny_bind (wpAny_pure (wpAny_bind fin))
      | no hc hsu r ih =>
        intro w fl up os ag
        obtain ⟨b, hb1, yes, no⟩ := w
        have J3 := Inv.suiteN (L2.Inv.landed (s' := s3) J nb fl.1 up os ag) a
        obtain ⟨oe, vs, he, hz, hd⟩ := fl.there
        refine wpAny_handleBy_cons (codeAny_handlers_test (hc.run (b := b) J3 he (by rw [hz.1]; exact hb1) fun h' tk' k => ?_)) (by intro q; cases q)
        have fl' := flies fl k
        have up' := up.trans (Heap.UpToSlots.of_keeps k)
        cases b with
        | true =>
          refine codeAny_handlers_suite (HandSPX.lands_againZ (s := { s3 with heap := h', toks := tk' }) fl' fun h4 fl4 up4 => ?_)
          obtain ⟨oe4, vs4, he4, hz4, hd4⟩ := fl4.there
          have J4 := Inv.track (Inv.suiteN (L2.Inv.landed (s' := { s3 with heap := h4, toks := tk' }) J nb fl4.1 (up'.trans up4) os ag) a) na n0 nL nC (fun p hp => nP p (by rw [List.append_nil] at hp; exact hp)) (exH_ok he4 hz4 hd4)
          refine wpAny_mono ((hsu a _).run [] _ _ _ _ J4 (yes rfl a na)) (fun f s6 q6 => ?_) fun _ _ z => z.elim
          cases f with
          | next =>
            obtain ⟨σ6, H6, S6, q6⟩ := q6
            exact ⟨_, _, Inv.unsuiteN S6 ok, q6⟩
          | brk =>
            obtain ⟨σ6, H6, S6, q6⟩ := q6
            exact ⟨_, _, Inv.unsuiteN S6 ok, q6⟩
          | cont =>
            obtain ⟨σ6, H6, S6, q6⟩ := q6
            exact ⟨_, _, Inv.unsuiteN S6 ok, q6⟩
          | ret u =>
            obtain ⟨v6, σ6, H6, S6, r6, q6⟩ := q6
            exact ⟨_, _, _, Inv.unsuiteN S6 ok, r6, q6⟩
        | false => exact ih (no rfl) fl' up' os ag
      | as hc hi hln hsu r ih =>
        intro w fl up os ag
        obtain ⟨b, hb1, yes, no⟩ := w
        have J3 := Inv.suiteN (L2.Inv.landed (s' := s3) J nb fl.1 up os ag) a
        obtain ⟨oe, vs, he, hz, hd⟩ := fl.there
        refine wpAny_handleBy_cons (codeAny_handlers_test (hc.run (b := b) J3 he (by rw [hz.1]; exact hb1) fun h' tk' k => ?_)) (by intro q; cases q)
        have fl' := flies fl k
        have up' := up.trans (Heap.UpToSlots.of_keeps k)
        cases b with
        | true =>
          refine codeAny_handlers_suite_as (HandSPX.lands_againZ (s := { s3 with heap := h', toks := tk' }) fl' fun h4 fl4 up4 => ?_)
          obtain ⟨oe4, vs4, he4, hz4, hd4⟩ := fl4.there
          have J4 := Inv.track (Inv.suiteN (L2.Inv.landed (s' := { s3 with heap := h4, toks := tk' }) J nb fl4.1 (up'.trans up4) os ag) a) na n0 nL nC (fun p hp => nP p (by rw [List.append_nil] at hp; exact hp)) (exH_ok he4 hz4 hd4)
          refine store_ok (X := X.suite a (X.pn ++ pins)) (v := .ref a) J4 hN hi (.inl hln) rfl (fun s5 S5 => ?_) (.inr hln)
          refine wpAny_mono ((hsu a _).run [] s5 _ _ _ S5 (yes rfl a na)) (fun f s6 q6 => ?_) fun _ _ z => z.elim
          cases f with
          | next =>
            obtain ⟨σ6, H6, S6, q6⟩ := q6
            exact L2.gone_ok (Inv.unsuiteN S6 ok) hN hi hln fun s7 J7 => ⟨_, _, J7, q6⟩
          | brk =>
            obtain ⟨σ6, H6, S6, q6⟩ := q6
            exact L2.gone_ok (Inv.unsuiteN S6 ok) hN hi hln fun s7 J7 => ⟨_, _, J7, q6⟩
          | cont =>
            obtain ⟨σ6, H6, S6, q6⟩ := q6
            exact L2.gone_ok (Inv.unsuiteN S6 ok) hN hi hln fun s7 J7 => ⟨_, _, J7, q6⟩
          | ret u =>
            obtain ⟨v6, σ6, H6, S6, r6, q6⟩ := q6
            exact L2.gone_ok (Inv.unsuiteN S6 ok) hN hi hln fun s7 J7 => ⟨_, _, _, J7, r6, q6⟩
        | false => exact ih (no rfl) fl' up' os ag
    exact go hh w fl3 (up.trans up3) os ag
end

/-! ### try on data -/
abbrev DCl := (Nat → Option Bool) × Option Nat × DS
def gD (D : DEnds) (i : Nat) : DEnds := { nx := fun st => D.nx (put st i .un), rt := D.rt, bk := fun st => D.bk (put st i .un), ct := fun st => D.ct (put st i .un) }
def sD (D : DEnds) : DEnds := { nx := D.nx, rt := D.rt, bk := D.bk, ct := D.ct }
/-- an error, asked clause by clause -/
def hX (D : DEnds) : List DCl → KX
  | [] => D.ex
  | (p, none, d) :: r => fun x st => match p x.c with
    | some true => d (sD D) st
    | some false => hX D r x st
    | none => False
  | (p, some i, d) :: r => fun x st => match p x.c with
    | some true => sto st i (.fz (.xc x.c x.fs)) (d (gD D i))
    | some false => hX D r x st
    | none => False
def dTry (d u : DS) (l : List DCl) : DS := fun D st => d { nx := u D, rt := D.rt, bk := D.bk, ct := D.ct, ex := hX D l } st
/-- the table of a clause: classes asked, with the answer -/
def tblC (l : List (Nat × Bool)) : Nat → Option Bool := fun c => l.lookup c
inductive HdsD (X : Cx) (Z : Zx) : List ExceptHandler → List DCl → Prop
  | nil : HdsD X Z [] []
  | no {t : Expr} {m : Value → Option Bool} {p : Nat → Option Bool} {d : DS} {b₀ : Stmt} {su : List Stmt} {pos' : Pos} {hds : List ExceptHandler} {l : List DCl} (hc : ClT X t m) (hm : ∀ c b, p c = some b → m (.ref (Z.cls c)) = some b)
      (hsu : ∀ a pn, PZs (X.suite a pn) Z E0s (b₀ :: su) d) (r : HdsD X Z hds l) : HdsD X Z (.ExceptHandler (some t) none (b₀ :: su) pos' :: hds) ((p, none, d) :: l)
  | as {t : Expr} {m : Value → Option Bool} {p : Nat → Option Bool} {d : DS} {b₀ : Stmt} {su : List Stmt} {pos' : Pos} {hds : List ExceptHandler} {l : List DCl} {n : Str} {i : Nat} (hc : ClT X t m) (hm : ∀ c b, p c = some b → m (.ref (Z.cls c)) = some b)
      (hi : X.N[i]? = some n) (hln : X.env.kindOf n = some .local) (hsu : ∀ a pn, PZs (X.suite a pn) Z E0s (b₀ :: su) d) (r : HdsD X Z hds l) : HdsD X Z (.ExceptHandler (some t) (some n) (b₀ :: su) pos' :: hds) ((p, some i, d) :: l)
section
variable {K : PySem.W.Frag} {Z : Zx} {H0 H F : Hp} {pv : List V}
theorem Sts.gone : ∀ {σ st G} (i : Nat), Sts K Z H0 pv σ st G → ∃ Ga Gx Gb, G = Ga ++ Gx ++ Gb ∧ Sts K Z H0 pv (σ.set i none) (put st i .un) (Ga ++ Gb)
  | _, _, _, i, .nil => ⟨[], [], [], rfl, .nil⟩
  | _, _, _, 0, .un (G := G) h => ⟨[], [], G, rfl, .un h⟩
  | _, _, _, 0, .lo (G1 := G1) (G2 := G2) _ h => ⟨[], G1, G2, rfl, .un h⟩
  | _, _, _, 0, .mp (G1 := G1) (G2 := G2) _ _ h => ⟨[], G1, G2, rfl, .un h⟩
  | _, _, _, 0, .fr (G1 := G1) (G2 := G2) _ _ h => ⟨[], G1, G2, rfl, .un h⟩
  | _, _, _, i + 1, .un h => by
    obtain ⟨Ga, Gx, Gb, h1, h2⟩ := Sts.gone i h
    exact ⟨Ga, Gx, Gb, h1, .un h2⟩
  | _, _, _, i + 1, .lo (G1 := Gy) q h => by
    obtain ⟨Ga, Gx, Gb, h1, h2⟩ := Sts.gone i h
    exact ⟨Gy ++ Ga, Gx, Gb, by rw [h1]; simp only [List.append_assoc], Sts.cast (Sts.lo q h2) (by simp only [List.append_assoc])⟩
  | _, _, _, i + 1, .mp (G1 := Gy) p q h => by
    obtain ⟨Ga, Gx, Gb, h1, h2⟩ := Sts.gone i h
    exact ⟨Gy ++ Ga, Gx, Gb, by rw [h1]; simp only [List.append_assoc], Sts.cast (Sts.mp p q h2) (by simp only [List.append_assoc])⟩
  | _, _, _, i + 1, .fr (G1 := Gy) z q h => by
    obtain ⟨Ga, Gx, Gb, h1, h2⟩ := Sts.gone i h
    exact ⟨Gy ++ Ga, Gx, Gb, by rw [h1]; simp only [List.append_assoc], Sts.cast (Sts.fr z q h2) (by simp only [List.append_assoc])⟩
theorem accS_gone {i : Nat} {k : S → Prop} {Q : L2.St → Hp → Prop} (h : AccS K Z F pv H0 k Q) : AccS K Z F pv H0 (fun st => k (put st i .un)) (fun σ H => Q (σ.set i none) H) := fun H0' G' H' σ' st' e wd ss q => by
  obtain ⟨Ga, Gx, Gb, h1, h2⟩ := ss.gone i
  subst h1
  exact h _ _ _ _ _ e wd.less h2 q
theorem accD_gone {E : XS} {DD : DEnds} {D : Ends} (i : Nat) (h : AccD K Z E F pv H0 DD D) : AccD K Z E0s F pv H0 (gD DD i) (Y.gone D i) := ⟨accS_gone h.nx, h.rt, accS_gone h.bk, accS_gone h.ct, h.ex.nox⟩
theorem accD_suite {E : XS} {DD : DEnds} {D : Ends} (h : AccD K Z E F pv H0 DD D) : AccD K Z E0s F pv H0 (sD DD) D := ⟨h.nx, h.rt, h.bk, h.ct, h.ex.nox⟩
theorem rep_xc {a : Addr} {cls : Value} {dx : Option Addr} {x : XW} (r : RepX K Z H0 H cls dx x) (na : H0 a = none) : Rep K Z (upd H0 a (exH a cls dx)) (.ref a) (.xc x.c x.fs) := by
  obtain ⟨rfl, ⟨rfl, e⟩ | ⟨d, fs, rfl, hd, hn, hr⟩⟩ := r
  · rw [e]
    exact .xc0 upd_same
  · exact .xcd upd_same (by rw [upd_ne (ne_of_none hd na)]; exact hd) hn (hr.mono (.new na))
end
section
variable {X : Cx} {Z : Zx} {E : XS} {hds : List ExceptHandler} {l : List DCl}
theorem hds_ok (h : HdsD X Z hds l) : ∃ L, HdsO X hds L ∧ ∀ {E F pv H0 DD D}, AccD X.K Z E F pv H0 DD D → AccX X.K Z (wCl (fun cls d σ H => E cls d σ H) D L) F pv H0 (hX DD l) := by
  induction h with
  | nil => exact ⟨[], .nil, fun acc => acc.ex⟩
  | @no t m p d b₀ su pos' hds l hc hm hsu r ih =>
    obtain ⟨L, h1, h2⟩ := ih
    refine ⟨(m, none, tS X.K Z E0s d) :: L, .no hc (fun a pn => hsu a pn) h1, fun {E F pv H0 DD D} acc => ⟨(acc.ex).tabs, fun H0' G' H' σ' st' cls dx x e wd ss rx k => ?_⟩⟩
    have k' : (match p x.c with | some true => d (sD DD) st' | some false => hX DD l x st' | none => False) := k
    cases q : p x.c with
    | none => rw [q] at k'; exact k'.elim
    | some b =>
      rw [q] at k'
      refine ⟨b, by rw [rx.1]; exact hm _ _ q, fun hb a na => ?_, fun hb => ?_⟩
      · subst hb
        have g := Gr.one (o := exH a cls dx) wd.ex na
        exact ⟨_, F, G', pv, st', sD DD, wd.grow g, ss.mono g.e0, k', accD_suite (acc.up (e.trans g.e0))⟩
      · subst hb
        exact h2 acc _ _ _ _ _ _ _ _ e wd ss rx k'
  | @as t m p d b₀ su pos' hds l n i hc hm hi hln hsu r ih =>
    obtain ⟨L, h1, h2⟩ := ih
    refine ⟨(m, some i, tS X.K Z E0s d) :: L, .as hc hi hln (fun a pn => hsu a pn) h1, fun {E F pv H0 DD D} acc => ⟨(acc.ex).tabs, fun H0' G' H' σ' st' cls dx x e wd ss rx k => ?_⟩⟩
    have k' : (match p x.c with | some true => sto st' i (.fz (.xc x.c x.fs)) (d (gD DD i)) | some false => hX DD l x st' | none => False) := k
    cases q : p x.c with
    | none => rw [q] at k'; exact k'.elim
    | some b =>
      rw [q] at k'
      refine ⟨b, by rw [rx.1]; exact hm _ _ q, fun hb a na => ?_, fun hb => ?_⟩
      · subst hb
        have g := Gr.one (o := exH a cls dx) wd.ex na
        have na0 : H0' a = none := by
          cases z : H0' a with
          | none => rfl
          | some u => rw [wd.ex _ _ z] at na; cases na
        obtain ⟨G2, wd2, ss2, k2⟩ := sto_ok (wd.grow g) (ss.mono g.e0) (rep_xc rx na0) k'
        exact ⟨_, F, G2, pv, _, gD DD i, wd2, ss2, k2, accD_gone i (acc.up (e.trans g.e0))⟩
      · subst hb
        exact h2 acc _ _ _ _ _ _ _ _ e wd ss rx k'
theorem z_try {body orelse : List Stmt} {h₀ : ExceptHandler} {pos : Pos} {db u : DS} (hs : X.stack = X.env :: X.outer) (hf : X.env.frame = some X.env.locals) (hN : X.N.Nodup) (hex : X.ex = []) (tk : Takes X fun cls d σ H => E cls d σ H)
    (hb : ∀ (W : XS) (pn : List (Addr × Obj)) (xe : Value → Shared → Prop), Takes (X.tr pn xe) (fun cls d σ H => W cls d σ H) → PassesOwn (model X.prog X.w) X.A X.env xe → PZs (X.tr pn xe) Z W body db)
    (hh : HdsD X Z (h₀ :: hds) l) (ho : PZs X Z E orelse u) : PZ X Z E (.Try body (h₀ :: hds) orelse [] pos) (dTry db u l) := by
  obtain ⟨L, h1, h2⟩ := hds_ok hh
  refine ps_weak (ps_tryO (tb := fun W => tS X.K Z W db) ho hs hf hN hex tk (fun W pn xe t p => hb W pn xe t p) h1) fun D σ H q => ?_
  obtain ⟨H0, F, G, pv, st, DD, wd, ss, hd, acc⟩ := q
  exact ⟨H0, F, G, pv, st, _, wd, ss, hd, ⟨fun H0' G' H' σ' st' e wd' ss' k => ⟨H0', F, G', pv, st', DD, wd', ss', k, acc.up e⟩, acc.rt, acc.bk, acc.ct, h2 acc⟩⟩
end
end Y
namespace Y
open PySem L2
open PySem.Spec PyProof.Rows
open Evl (Ex)

/-! ### tables of classes -/
theorem tb_nil {β : Type} {P : Nat → β → Prop} : ∀ c b, ([] : List (Nat × β)).lookup c = some b → P c b := fun _ _ h => nomatch h
theorem tb_cons {β : Type} {P : Nat → β → Prop} {l : List (Nat × β)} {c : Nat} {b : β} (h : P c b) (r : ∀ c b, l.lookup c = some b → P c b) : ∀ c' b', ((c, b) :: l).lookup c' = some b' → P c' b' := fun c' b' e => by
  rw [List.lookup_cons] at e
  by_cases q : c' = c
  · subst q
    rw [beq_self_eq_true] at e
    cases e
    exact h
  · rw [show (c' == c) = false from beq_eq_false_iff_ne.mpr q] at e
    exact r c' b' e

/-! ### a caught error, asked -/
/-- what a class of errors must say -/
structure XcC (K : PySem.W.Frag) (D : Addr) : Prop where
  ga : PySem.W.findIn K (.ref D) "__getattribute__" = some (some (.builtin "BaseException.__getattribute__"))
  gg : PySem.W.findIn K (.ref D) "__getattr__" = some none
  sb : PySem.W.subIn K (.ref D) (.type "BaseException") = some true
  hd : PySem.W.hasDictIn K D = true
  ca : PySem.W.findIn K (.ref D) "__class__" = some (some (.builtin "object.__class__"))
  cn : PySem.W.specialIn K (.builtin "object.__class__") "__get__" = some (some (.builtin "getset_descriptor.__get__"))
  ct : PySem.W.takesIn K (.builtin "object.__class__") = some true
  cm : PySem.W.mroIn K D (.type "object") = some true
def xcB (K : PySem.W.Frag) (D : Addr) : Bool := decide (PySem.W.findIn K (.ref D) "__getattribute__" = some (some (.builtin "BaseException.__getattribute__"))) && (decide (PySem.W.findIn K (.ref D) "__getattr__" = some none) && (decide (PySem.W.subIn K (.ref D) (.type "BaseException") = some true) && (PySem.W.hasDictIn K D &&
  (decide (PySem.W.findIn K (.ref D) "__class__" = some (some (.builtin "object.__class__"))) && (decide (PySem.W.specialIn K (.builtin "object.__class__") "__get__" = some (some (.builtin "getset_descriptor.__get__"))) && (decide (PySem.W.takesIn K (.builtin "object.__class__") = some true) && decide (PySem.W.mroIn K D (.type "object") = some true)))))))
theorem xcB_ok {K : PySem.W.Frag} {D : Addr} (h : xcB K D = true) : XcC K D := by
  obtain ⟨h1, h⟩ := Bool.and_eq_true_iff.mp h
  obtain ⟨h2, h⟩ := Bool.and_eq_true_iff.mp h
  obtain ⟨h3, h⟩ := Bool.and_eq_true_iff.mp h
  obtain ⟨h4, h⟩ := Bool.and_eq_true_iff.mp h
  obtain ⟨h5, h⟩ := Bool.and_eq_true_iff.mp h
  obtain ⟨h6, h⟩ := Bool.and_eq_true_iff.mp h
  obtain ⟨h7, h8⟩ := Bool.and_eq_true_iff.mp h
  exact ⟨of_decide_eq_true h1, of_decide_eq_true h2, of_decide_eq_true h3, h4, of_decide_eq_true h5, of_decide_eq_true h6, of_decide_eq_true h7, of_decide_eq_true h8⟩
section
variable {X : Cx} {pins : List (Addr × Obj)} {σ : L2.St} {H : Hp} {s : Shared} {a D : Addr} {d : Option Addr}
/-- where the error stands, with its dict -/
theorem xc_inst (I : Inv X pins σ H s) (e : H a = some (exH a (.ref D) d)) : match d with
    | none => ∃ oe, PySem.W.InstAt s.heap a oe D none
    | some dd => ∀ fs, H dd = some (.xd fs) → ∃ (oe od : Obj) (mA : Str → Option Value), PySem.W.InstAt s.heap a oe D (some od) ∧ (∀ f, PySem.W.lookIn f od = some (mA f)) ∧ ∀ f, RelO (fs.lookup f) (mA f) := by
  obtain ⟨oe, vs, he, hz, hv⟩ := exH_at I e
  have nc : PySem.W.notCls oe = true := by
    unfold PySem.W.notCls
    rw [hv]
  cases d with
  | none => exact ⟨oe, he, hz.1, nc, by rw [hz.2]; trivial⟩
  | some dd =>
    intro fs hx
    obtain ⟨mA, hns, hr⟩ := (show ObjOk X.prog X.w H s.heap dd (.xd fs) from I.hok dd _ hx)
    obtain ⟨od, ho, hl⟩ := lookIn_ns hns
    exact ⟨oe, od, mA, ⟨he, hz.1, nc, by rw [hz.2]; exact ho⟩, hl, hr⟩
theorem xc_kit (C : XcC X.K D) {oe : Obj} {od : Option Obj} : PySem.W.KitX X.K (.ref a) (.ref D) (fun h => PySem.W.InstAt h a oe D od) := by
  obtain ⟨cd, hc, _⟩ := PySem.W.any_some C.hd
  exact PySem.W.kitx_exc (by rw [hc]; rfl) C.ga C.gg C.sb C.ca C.cn C.ct C.cm
/-- an error as an argument of isinstance -/
def IsX (K : PySem.W.Frag) (H : Hp) (v : V) (D : Addr) : Prop := ∃ (a : Addr) (d : Option Addr), v = .ref a ∧ H a = some (exH a (.ref D) d) ∧ ∀ dd, d = some dd → ∃ fs, H dd = some (.xd fs)
theorem isX_kit {v : V} {u : Value} (C : XcC X.K D) (I : Inv X pins σ H s) (x : IsX X.K H v D) (r : RelV v u) : ∃ P : Heap → Prop, PySem.W.KitX X.K u (.ref D) P ∧ P s.heap ∧ u ≠ .builtin "__main__.__loader__#opaque" := by
  obtain ⟨a, d, rfl, e, hd⟩ := x
  obtain rfl : u = Value.ref a := r
  have q := xc_inst I e
  cases d with
  | none =>
    obtain ⟨oe, J⟩ := q
    exact ⟨_, xc_kit C, J, fun z => nomatch z⟩
  | some dd =>
    obtain ⟨fs, hx⟩ := hd dd rfl
    obtain ⟨oe, od, mA, J, _⟩ := q fs hx
    exact ⟨_, xc_kit C, J, fun z => nomatch z⟩
def rIsX (K : PySem.W.Frag) : List V → Hp → VK → Prop := fun xs H Q => ∃ (x c : V) (D : Addr) (u : Value) (b : Bool), xs = [x, c] ∧ ClsV c u ∧ XcC K D ∧ IsX K H x D ∧ PySem.W.kitOne K (.ref D) u = some b ∧ Q (.bl b) H
def rIsXT (K : PySem.W.Frag) : List V → Hp → VK → Prop := fun xs H Q => ∃ (x : V) (tp : Addr) (cs : List V) (D : Addr) (us : List Value) (b : Bool), xs = [x, .ref tp] ∧ H tp = some (.tup cs) ∧ Paired ClsV cs us ∧ XcC K D ∧ IsX K H x D ∧ PySem.W.kitAny K (.ref D) us = some b ∧ Q (.bl b) H
theorem call_isX : CallR X (.builtin "isinstance") (rIsX X.K) := by
  intro pins s σ H xs us Q I r h
  obtain ⟨x, c, D, u, b, rfl, k, C, ty, e, q⟩ := h
  obtain ⟨u1, u2, rfl, r1, r2⟩ := vals2 r
  have e2 := k.eq r2
  subst e2
  obtain ⟨P, Z, p, hx⟩ := isX_kit C I ty r1
  exact PySem.W.kia_one Z I.kIn p e hx fun tk => ⟨.bl b, H, I.tok tk, rfl, q⟩
theorem call_isXT : CallR X (.builtin "isinstance") (rIsXT X.K) := by
  intro pins s σ H xs us Q I r h
  obtain ⟨x, tp, cs, D, ws, b, rfl, hT, k, C, ty, e, q⟩ := h
  obtain ⟨u1, u2, rfl, r1, r2⟩ := vals2 r
  cases (show u2 = Value.ref tp from r2)
  obtain ⟨P, Z, p, hx⟩ := isX_kit C I ty r1
  obtain ⟨_, its, rv, o, h1, h2, n, h3⟩ := (show ObjOk X.prog X.w H s.heap tp (.tup cs) from I.hok tp _ hT)
  have e3 := ClsV.all k rv
  subst e3
  obtain ⟨oc, od, dt, sl⟩ := o
  simp only at h2 h3
  subst h2 h3
  exact PySem.W.kia_tup Z I.kIn p h1 e hx fun tk => ⟨.bl b, H, I.tok tk, rfl, q⟩
/-- e.f -/
def tXfH (K : PySem.W.Frag) (f : Str) (te : TE) : TE := fun σ H Q => te σ H fun x H1 => ∃ (a D dd : Addr) (fs : List (Str × V)) (v : V), x = .ref a ∧ H1 a = some (exH a (.ref D) (some dd)) ∧ H1 dd = some (.xd fs) ∧ XcC K D ∧ PySem.W.findIn K (.ref D) f = some none ∧ fs.lookup f = some v ∧ Q v H1
theorem pe_xfH {e : Expr} {te : TE} {pos : Pos} {f : Str} (he : PE X e te) (hb : attributeBase e f X.env (eval e X.env) = eval e X.env := by rfl) : PE X (.Attribute e f pos) (tXfH X.K f te) := by
  refine ⟨fun pins s σ H Q I h => ?_⟩
  refine attr_of hb (thn (he.run pins s σ H _ I h) fun u s1 ⟨x, H1, I1, rx, a, D, dd, fs, v, ex, ea, ed, C, hno, l, q⟩ => ?_)
  subst ex
  obtain rfl : u = Value.ref a := rx
  obtain ⟨oe, od, mA, J, hl, hr⟩ := xc_inst I1 ea fs ed
  obtain ⟨u, hu, ru⟩ := RelO.some_of (v := v) (o := mA f) (by rw [← l]; exact hr f)
  exact HandSPX.exc_get I1.kIn J C.ga C.gg C.sb (PySem.W.findObj_own C.hd hno rfl (by rw [hl, hu])) (handed_of ru) ⟨v, H1, I1.tok _, ru, q⟩
end

/-! ### on data -/
/-- isinstance of a caught error: p the table -/
def dIsX (p : List (Nat × Bool)) (d : DE) : DE := fun st k x => d st (fun r st1 => match r with
  | .w (.xc c _) => match p.lookup c with
    | some b => k (.w (.bl b)) st1
    | none => False
  | _ => False) x
/-- a caught error's field, by the place at which its class keeps it -/
def dXf (p : List (Nat × Nat)) (d : DE) : DE := fun st k x => d st (fun r st1 => match r with
  | .w (.xc c fs) => match p.lookup c with
    | some j => ∃ w, fs[j]? = some w ∧ k (.w w) st1
    | none => False
  | _ => False) x
section
variable {K : PySem.W.Frag} {Z : Zx} {H H0 : Hp}
theorem xc_is {v : V} {c : Nat} {fs : List W} (e : Ex H0 H) (r : Rep K Z H0 v (.xc c fs)) : IsX K H v (Z.cls c) := by
  cases r with
  | xc0 h => exact ⟨_, none, rfl, e _ _ h, fun _ z => nomatch z⟩
  | xcd h1 h2 h3 h4 => exact ⟨_, some _, rfl, e _ _ h1, fun dd z => by cases z; exact ⟨_, e _ _ h2⟩⟩
end
section
variable {X : Cx} {Z : Zx} {E : XS} {e ce : Expr} {dd : DE} {pos p p' : Pos} {C : Ty0} {f : Str}
theorem pd_isX {tb : List (Nat × Bool)} (hx : ∀ c b, tb.lookup c = some b → XcC X.K (Z.cls c) ∧ PySem.W.kitOne X.K (.ref (Z.cls c)) (C.v Z) = some b) (hg : Gl X "isinstance") (hm : X.mg "isinstance" = none) (he : PD X Z E e dd) (hc : PE X ce (tC (C.vV Z)))
    (hs1 : starEach [e, ce] X.env = (false, eval e X.env) :: starEach [ce] X.env := by rfl) (hs2 : starEach [ce] X.env = (false, eval ce X.env) :: starEach [] X.env := by rfl)
    (hpl : (backTo pos (starEach [ce] X.env)).any (·.1) = false := by rfl) : PD X Z E (.Call (.Name "isinstance" p) [e, ce] [] pos) (dIsX tb dd) := by
  refine pe_weak (pe_callB call_isX hg hm PyProof.Rows.boot_isinstance (pa_cons he (pa_cons hc pa_nil hs2) hs1) (by decide) (by decide) hs1 hpl) fun σ H Q q => ?_
  obtain ⟨H0, F, G, pv, st, k, kx, wd, ss, hd, hk, hxx⟩ := q
  refine tE_seq wd ss hxx hd fun H1 G1 H1' st1 v r e1 wd1 ss1 rr k1 => ?_
  show rIsX X.K [v, C.vV Z] H1' Q
  cases rr with
  | pk _ => exact k1.elim
  | @w w0 rv =>
    cases w0 with
    | xc c fs =>
      have k1 : (match tb.lookup c with | some b => k (.w (.bl b)) st1 | none => False) := k1
      cases q : tb.lookup c with
      | none => rw [q] at k1; exact k1.elim
      | some b =>
        rw [q] at k1
        obtain ⟨h1, h2⟩ := hx c b q
        exact ⟨v, C.vV Z, _, C.v Z, b, rfl, ClsV.of C, h1, xc_is wd1.ex rv, h2, hk _ _ _ _ _ _ e1 wd1 ss1 (.w .bl) k1⟩
    | _ => exact k1.elim
theorem pd_xf {tb : List (Nat × Nat)} (hx : ∀ c j, tb.lookup c = some j → XcC X.K (Z.cls c) ∧ PySem.W.findIn X.K (.ref (Z.cls c)) f = some none ∧ (fldN c)[j]? = some f) (he : PD X Z E e dd) (hb : attributeBase e f X.env (eval e X.env) = eval e X.env := by rfl) : PD X Z E (.Attribute e f pos) (dXf tb dd) := by
  refine pe_weak (pe_xfH he hb) fun σ H Q q => ?_
  obtain ⟨H0, F, G, pv, st, k, kx, wd, ss, hd, hk, hxx⟩ := q
  refine tE_seq wd ss hxx hd fun H1 G1 H1' st1 v r e1 wd1 ss1 rr k1 => ?_
  cases rr with
  | pk _ => exact k1.elim
  | @w w0 rv =>
    cases w0 with
    | xc c fs =>
      have k1 : (match tb.lookup c with | some j => ∃ w, fs[j]? = some w ∧ k (.w w) st1 | none => False) := k1
      cases q : tb.lookup c with
      | none => rw [q] at k1; exact k1.elim
      | some j =>
        rw [q] at k1
        obtain ⟨w, hw, k1⟩ := k1
        obtain ⟨h1, h2, h3⟩ := hx c j q
        cases rv with
        | xc0 h => simp at hw
        | @xcd a _ d fs' _ g1 g2 g3 g4 =>
          obtain ⟨y, hy, ry⟩ := g4.get hw
          exact ⟨a, _, d, fs', y, rfl, wd1.ex _ _ g1, wd1.ex _ _ g2, h1, h2, lookup_at (by rw [g3]; exact fld_nd c) (by rw [g3]; exact h3) hy, hk _ _ _ _ _ _ e1 wd1 ss1 (.w ry) k1⟩
    | _ => exact k1.elim
/-- isinstance(e, (A, B, ..)) -/
theorem pd_isXT {tb : List (Nat × Bool)} {cs : List V} {us : List Value} {x1 : Nat} {pt : Pos} {es : List Expr} {ta : TA} (hcs : Paired ClsV cs us) (hx : ∀ c b, tb.lookup c = some b → XcC X.K (Z.cls c) ∧ PySem.W.kitAny X.K (.ref (Z.cls c)) us = some b) (hg : Gl X "isinstance") (hm : X.mg "isinstance" = none) (he : PD X Z E e dd)
    (hc : PA X es ta) (hta : ∀ σ H Q, Q cs H → ta σ H Q) (hl : cs.length ≤ 1000)
    (hs1 : starEach [e, .Tuple es x1 pt] X.env = (false, eval e X.env) :: starEach [.Tuple es x1 pt] X.env := by rfl) (hs2 : starEach [.Tuple es x1 pt] X.env = (false, eval (.Tuple es x1 pt) X.env) :: starEach [] X.env := by rfl)
    (hpl : (backTo pos (starEach [.Tuple es x1 pt] X.env)).any (·.1) = false := by rfl) : PD X Z E (.Call (.Name "isinstance" p) [e, .Tuple es x1 pt] [] pos) (dIsX tb dd) := by
  refine pe_weak (pe_callB call_isXT hg hm PyProof.Rows.boot_isinstance (pa_cons he (pa_cons (pe_tup hc) pa_nil hs2) hs1) (by decide) (by decide) hs1 hpl) fun σ H Q q => ?_
  obtain ⟨H0, F, G, pv, st, k, kx, wd, ss, hd, hk, hxx⟩ := q
  refine tE_seq wd ss hxx hd fun H1 G1 H1' st1 v r e1 wd1 ss1 rr k1 => hta _ _ _ ⟨Nat.le_trans hl (by rw [sizeLine_eq]; decide), fun tp hn => ?_⟩
  show rIsXT X.K [v, .ref tp] (upd H1' tp (.tup cs)) Q
  cases rr with
  | pk _ => exact k1.elim
  | @w w0 rv =>
    cases w0 with
    | xc c fs =>
      have k1 : (match tb.lookup c with | some b => k (.w (.bl b)) st1 | none => False) := k1
      cases q : tb.lookup c with
      | none => rw [q] at k1; exact k1.elim
      | some b =>
        rw [q] at k1
        obtain ⟨h1, h2⟩ := hx c b q
        have g := Gr.one (o := .tup cs) wd1.ex hn
        exact ⟨v, tp, cs, _, us, b, rfl, upd_same, hcs, h1, xc_is ((wd1.ex).trans g.e) rv, h2, hk _ _ _ _ _ _ (e1.trans g.e0) (wd1.grow g) (ss1.mono g.e0) (.w .bl) k1⟩
    | _ => exact k1.elim
end
end Y
namespace Y
open PySem L2
open PySem.Spec PyProof.Rows
open Evl (Ex)

/-! ### except (A, B, ..): -/
section
variable {M : Model} {A : Around} {E : Value → Shared → Prop} {s : Shared} {K : PySem.W.Frag}
theorem loop_all {f : Value → PUnit → Sem (ForInStep PUnit)} : ∀ {cs : List Value} {Q : PUnit → Shared → Prop}, (∀ c ∈ cs, ∀ Q : ForInStep PUnit → Shared → Prop, Q (.yield ⟨⟩) s → wpAny M A (f c ⟨⟩) Q E s) → Q ⟨⟩ s → wpAny M A (forIn cs PUnit.unit f) Q E s
  | [], Q, _, q => by
    rw [List.forIn_nil]
    exact wpAny_pure q
  | c :: cs, Q, h, q => by
    rw [List.forIn_cons]
    refine wpAny_bind (h c List.mem_cons_self _ ?_)
    exact loop_all (fun d hd => h d (List.mem_cons_of_mem _ hd)) q
theorem loop_any {α : Type} {f : Value → Option α × PUnit → Sem (ForInStep (Option α × PUnit))} {r : α} {cls : Value} (hc : ∀ c b, PySem.W.exmOne K cls c = some b → ∀ Q : ForInStep (Option α × PUnit) → Shared → Prop, Q (if b = true then .done (some r, ⟨⟩) else .yield (none, ⟨⟩)) s → wpAny M A (f c (none, ⟨⟩)) Q E s) :
    ∀ {cs : List Value} {b : Bool} {Q : Option α × PUnit → Shared → Prop}, PySem.W.exmAny K cls cs = some b → Q (if b = true then (some r, ⟨⟩) else (none, ⟨⟩)) s → wpAny M A (forIn cs (none, PUnit.unit) f) Q E s
  | [], b, Q, h, q => by
    have e : some false = some b := h
    cases e
    rw [List.forIn_nil]
    exact wpAny_pure q
  | c :: cs, b, Q, h, q => by
    obtain ⟨b1, d1, h1, h2, rfl⟩ := PySem.W.exmAny_cons h
    rw [List.forIn_cons]
    refine wpAny_bind (hc c b1 h1 _ ?_)
    cases b1 with
    | true => exact wpAny_pure q
    | false => exact loop_any hc h2 (by rw [Bool.false_or] at q; exact q)
theorem exmAny_mem {cls : Value} : ∀ {cs : List Value} {b : Bool}, PySem.W.exmAny K cls cs = some b → ∀ c ∈ cs, ∃ b, PySem.W.exmOne K cls c = some b
  | [], _, _, c, hc => nomatch hc
  | d :: cs, b, h, c, hc => by
    obtain ⟨b1, d1, h1, h2, _⟩ := PySem.W.exmAny_cons h
    rcases List.mem_cons.mp hc with rfl | hc
    · exact ⟨_, h1⟩
    · exact exmAny_mem h2 c hc
theorem exm_many {cs : List Value} {cls : Value} {tp e : Addr} {b : Bool} {h : Heap} (X : K.In h) (LT : PySem.W.Looks M h (typeOf (.ref e)) cls) (hp : h.get? tp = some { cls := .type "tuple", data := .seq cs.toArray }) (hx : PySem.W.exmAny K cls cs = some b) :
    PySem.W.Looks M h (excMatches (.ref e) (.ref tp)) b := by
  intro A Q E s k q
  have hp' := k _ _ hp
  have LT0 : PySem.W.Looks M h (isInstance (.ref tp) (.type "tuple")) true := ((PySem.W.Looks.ld hp).andThen .now).andThen (PySem.W.Looks.of_pure isSubtype_tuple_tuple)
  unfold excMatches
  refine wpAny_bind ((LT0.keeps k).here ?_)
  dsimp only
  rw [if_pos rfl]
  refine wpAny_bind (wpAny_seqItems hp' rfl ?_)
  dsimp only [Option.getD_some, Option.getD]
  refine wpAny_bind (wpAny_pure (wpAny_bind (loop_all (fun c hc Q hq => ?_) ?_)))
  · obtain ⟨b1, h1⟩ := exmAny_mem hx c hc
    obtain ⟨e1, _⟩ := PySem.W.exm_cls (M := M) X h1
    refine wpAny_bind ((e1.keeps k).here ?_)
    exact wpAny_pure hq
  · refine wpAny_bind ((LT.keeps k).here ?_)
    refine wpAny_bind (loop_any (r := true) (fun c b1 h1 Q hq => ?_) hx ?_)
    · obtain ⟨_, S1⟩ := PySem.W.exm_cls (M := M) X h1
      refine wpAny_bind ((S1.keeps k).here ?_)
      cases b1 with
      | true => exact wpAny_pure hq
      | false => exact wpAny_pure hq
    · cases b with
      | true => exact wpAny_pure q
      | false => exact wpAny_pure q
end

section
variable {X : Cx}
/-- a name in a clause's tuple -/
structure NmT (X : Cx) (t : Expr) (c : Value) : Prop where
  run : ∀ {pn pins : List (Addr × Obj)} {σ : L2.St} {H : Hp} {s : Shared} {a : Addr} {Q : Value → Shared → Prop} {E : Value → Shared → Prop}, Inv (X.suite a pn) pins σ H s → Q c s → wpAny (model X.prog X.w) (X.A.mark (some (.ref a))) (eval t X.env) Q E s
theorem nm_t {x : Str} {c : Value} {p : Pos} (hc : Names X x c) : NmT X (.Name x p) c := by
  refine ⟨fun {pn pins σ H s a Q E} I q => ?_⟩
  obtain ⟨hg, hdbg, hm | ⟨hm, hv, hnn⟩⟩ := hc
  · exact ld_glob I hg hm q hdbg
  · exact ld_blt I hg hm hv q hnn hdbg
inductive NmTs (X : Cx) (pos : Pos) : List Expr → List Value → Prop
  | nil (h : starEach [] X.env = [] := by rfl) : NmTs X pos [] []
  | cons {e : Expr} {es : List Expr} {c : Value} {cs : List Value} (h : NmT X e c) (r : NmTs X pos es cs) (hs : starEach (e :: es) X.env = (false, eval e X.env) :: starEach es X.env := by rfl) : NmTs X pos (e :: es) (c :: cs)
theorem nmTs_run {pos : Pos} {pn pins : List (Addr × Obj)} {σ : L2.St} {H : Hp} {s : Shared} {a : Addr} {E : Value → Shared → Prop} (I : Inv (X.suite a pn) pins σ H s) : ∀ {es : List Expr} {cs : List Value} {Q : List Value → Shared → Prop}, NmTs X pos es cs → Q cs s → wpAny (model X.prog X.w) (X.A.mark (some (.ref a))) (spliced (backTo pos (starEach es X.env))) Q E s
  | _, _, Q, .nil h, q => by
    rw [h]
    exact Calls.spliced_nil q
  | _, _, Q, .cons h r hs, q => by
    rw [hs]
    refine Calls.spliced_cons (h.run I ?_)
    exact wpAny_mono (nmTs_run I r (Q := fun vs s1 => Q (_ :: vs) s1) q) (fun _ _ z => z) fun _ _ z => z
theorem cl_tup {es : List Expr} {cs : List Value} {x1 : Nat} {p : Pos} (h : NmTs X p es cs) (hl : cs.length ≤ 1000) : ClT X (.Tuple es x1 p) (fun v => PySem.W.exmAny X.K v cs) := by
  refine ⟨fun {pn pins σ H s a oe b Q E} I ha hb hq => ?_⟩
  refine wpAny_Tuple_spliced (nmTs_run I h ⟨Nat.le_trans hl (by rw [sizeLine_eq]; decide), ?_⟩)
  have k : ∀ c u, s.heap.get? c = some u → (s.heap.push { cls := .type "tuple", data := .seq cs.toArray }).get? c = some u := fun c u e => Heap.get?_push_of_some _ e
  have LT : PySem.W.Looks (model X.prog X.w) (s.heap.push { cls := .type "tuple", data := .seq cs.toArray }) (typeOf (.ref a)) oe.cls := fun A Q E s' k' q => wpAny_typeOf_ref (k' _ _ (k _ _ ha)) q
  exact (exm_many (M := model X.prog X.w) (PySem.W.Frag.In.keeps I.kIn k) LT (Heap.get?_push_size _ rfl) hb).here (hq _ s.toks k)
end
end Y
namespace Y
open PySem L2
open PySem.Spec PyProof.Rows
open Evl (Ex)

/-! ### errors' __init__, raise of a class without one -/
section
variable {P : Program} {w : World} {K : PySem.W.Frag} {mg : Str → Option Value} {base : Heap} {CX : CXT} {x qual : Str} {params : Arguments} {body : List Stmt} {scope : Scope} {dvs : List V} {kws : List (Str × V)} {f : Addr} {fd : FuncData} {C : Addr} {B newId initId : String} {bmB : List Value} {m g1 g2 p0 p1 p2 : Str} {k : Nat}
/-- B.__init__(self, 'm') -/
abbrev tBm (K : PySem.W.Frag) (bmB : List Value) (newId : String) (m : Str) : TE := tBi K bmB newId (tCons (tVar 0) (tCons (tC (.str m)) tNil))
theorem okE1 (F : FunD K x qual params body scope dvs kws f fd) (S : FnScope [p0, p1] [p0, p1] scope) (oex : OexK K C bmB newId) (hno : PySem.W.findIn K (.ref C) g1 = some none)
    (hb : ∀ (cdv : Value) (A : Around) (outer : List Env) (s : Shared) (H : Hp) (E : XK), PSs (cxOf CX P w K mg base [p0, p1] qual scope f cdv A outer s H E) body (tSeq (tDrop (tBm K bmB newId m)) (tEs K bmB newId g1 (tVar 0) (tVar 1)))) :
    FnOk P w K mg base CX (k + 1) f fd [p0, p1] (spE C [g1]) := by
  refine F.ok S (fun vs H Q E h => spE_len (fs := [g1]) h) fun cdv A outer s H vs Q E hr h => ⟨_, hb cdv A outer s H E, ?_⟩
  obtain ⟨a, ys, rfl, hl, ha, hq⟩ := h
  match ys, hl, hq with
  | [y], _, hq => exact ⟨.ref a, rfl, a, C, [.str m], rfl, by simp, oex, ha, y, rfl, .ref a, rfl, a, C, rfl, oex, hno, Or.inl ⟨ha, fun dx n ne => hq dx n ne⟩⟩
theorem okE2 (F : FunD K x qual params body scope dvs kws f fd) (S : FnScope [p0, p1, p2] [p0, p1, p2] scope) (oex : OexK K C bmB newId) (hno1 : PySem.W.findIn K (.ref C) g1 = some none) (hno2 : PySem.W.findIn K (.ref C) g2 = some none)
    (hb : ∀ (cdv : Value) (A : Around) (outer : List Env) (s : Shared) (H : Hp) (E : XK), PSs (cxOf CX P w K mg base [p0, p1, p2] qual scope f cdv A outer s H E) body (tSeq (tDrop (tBm K bmB newId m)) (tSeq (tEs K bmB newId g1 (tVar 0) (tVar 1)) (tEs K bmB newId g2 (tVar 0) (tVar 2))))) :
    FnOk P w K mg base CX (k + 1) f fd [p0, p1, p2] (spE C [g1, g2]) := by
  refine F.ok S (fun vs H Q E h => spE_len (fs := [g1, g2]) h) fun cdv A outer s H vs Q E hr h => ⟨_, hb cdv A outer s H E, ?_⟩
  obtain ⟨a, ys, rfl, hl, ha, hq⟩ := h
  match ys, hl, hq with
  | [y, z], _, hq =>
    refine ⟨.ref a, rfl, a, C, [.str m], rfl, by simp, oex, ha, y, rfl, .ref a, rfl, a, C, rfl, oex, hno1, Or.inl ⟨ha, fun dx n ne => ?_⟩⟩
    exact ⟨z, rfl, .ref a, rfl, a, C, rfl, oex, hno2, Or.inr ⟨dx, [(g1, y)], upd_same, by rw [upd_ne ne, upd_same], by simp, hq dx n ne⟩⟩
end
section
variable {X : Cx} {Z : Zx} {E : XS} {s : Stmt} {p p2 pos pos' : Pos} {x m : Str} {C : Addr} {c : Nat} {B newId initId : String} {bmB : List Value}
theorem z_raise0 {j} (eb : EB B newId initId bmB) (q : PySem.W.excIn X.K C bmB newId = true) (kC : PySem.W.keepIn X.K (.ref C) = true) (exC : PySem.W.subIn X.K (.ref C) (.type "BaseException") = some true) (tyC : PySem.W.typeIn X.K (.ref C) = some (.type "type"))
    (hC : Z.cls c = C) (hg : Gl X x) (hm : X.mg x = some (.ref C)) (hc : X.calm = true) (tk : Takes X fun cls d σ H => E cls d σ H) (hdb : (x == ("__debug__" : Str)) = false := by decide) : PZ X Z E (.Raise (some (.Call (.Name x p) [.Constant (.str m) j p2] [] pos)) none pos') (dRaise0 c) := by
  subst hC
  refine ps_weak (ps_raise hc tk (pmk_own eb.fb q hm kC (raises_own exC tyC) hg hdb)) fun D σ H q => ?_
  obtain ⟨H0, F, G, pv, st, DD, wd, ss, hd, acc⟩ := q
  exact acc.ex _ _ _ _ _ _ _ _ (Ex.refl _) wd ss ⟨rfl, .inl ⟨rfl, rfl⟩⟩ hd
/-- a statement that is never reached -/
def dNever : DS := fun _ _ => False
theorem z_never : PZ X Z E s dNever := ⟨fun pins st σ H D I q => by
  obtain ⟨_, _, _, _, _, _, _, _, h, _⟩ := q
  exact h.elim⟩
end
end Y
namespace Y
open PySem L2
open PySem.Spec PyProof.Rows
open He (ga)

/-! ### facts of the classes of errors -/
abbrev bm_ValueError : List Value := [.type "ValueError", .type "Exception", .type "BaseException", .type "object"]
abbrev bm_ArithmeticError : List Value := [.type "ArithmeticError", .type "Exception", .type "BaseException", .type "object"]
abbrev bm_LookupError : List Value := [.type "LookupError", .type "Exception", .type "BaseException", .type "object"]
abbrev bm_IndexError : List Value := [.type "IndexError", .type "LookupError", .type "Exception", .type "BaseException", .type "object"]
abbrev bm_RuntimeError : List Value := [.type "RuntimeError", .type "Exception", .type "BaseException", .type "object"]
abbrev bm_ZeroDivisionError : List Value := [.type "ZeroDivisionError", .type "ArithmeticError", .type "Exception", .type "BaseException", .type "object"]
def oexB (x : Str) (bmB : List Value) (newId : String) (K : PySem.W.Frag) : Bool := PySem.W.excInitIn K (ga K x) bmB newId && (PySem.W.excOver K (ga K x) bmB && (PySem.W.hasDictIn K (ga K x) && (decide (PySem.W.findIn K (.ref (ga K x)) "__setattr__" = some (some (.builtin "object.__setattr__"))) &&
  (decide (PySem.W.subIn K (.ref (ga K x)) (.type "BaseException") = some true) && (decide (PySem.W.typeIn K (.ref (ga K x)) = some (.type "type")) && PySem.W.keepIn K (.ref (ga K x)))))))
theorem oexB_ok {x : Str} {bmB : List Value} {newId : String} {K : PySem.W.Frag} (h : oexB x bmB newId K = true) : OexK K (ga K x) bmB newId := by
  obtain ⟨h1, h⟩ := Bool.and_eq_true_iff.mp h
  obtain ⟨h2, h⟩ := Bool.and_eq_true_iff.mp h
  obtain ⟨h3, h⟩ := Bool.and_eq_true_iff.mp h
  obtain ⟨h4, h⟩ := Bool.and_eq_true_iff.mp h
  obtain ⟨h5, h⟩ := Bool.and_eq_true_iff.mp h
  obtain ⟨h6, h7⟩ := Bool.and_eq_true_iff.mp h
  exact ⟨h1, h2, h3, of_decide_eq_true h4, of_decide_eq_true h5, of_decide_eq_true h6, h7⟩
/-- a class without __init__ -/
structure Oex0 (K : PySem.W.Frag) (C : Addr) (bmB : List Value) (newId : String) : Prop where
  q : PySem.W.excIn K C bmB newId = true
  k : PySem.W.keepIn K (.ref C) = true
  s : PySem.W.subIn K (.ref C) (.type "BaseException") = some true
  t : PySem.W.typeIn K (.ref C) = some (.type "type")
def oex0B (x : Str) (bmB : List Value) (newId : String) (K : PySem.W.Frag) : Bool := PySem.W.excIn K (ga K x) bmB newId && (PySem.W.keepIn K (.ref (ga K x)) && (decide (PySem.W.subIn K (.ref (ga K x)) (.type "BaseException") = some true) && decide (PySem.W.typeIn K (.ref (ga K x)) = some (.type "type"))))
theorem oex0B_ok {x : Str} {bmB : List Value} {newId : String} {K : PySem.W.Frag} (h : oex0B x bmB newId K = true) : Oex0 K (ga K x) bmB newId := by
  obtain ⟨h1, h⟩ := Bool.and_eq_true_iff.mp h
  obtain ⟨h2, h⟩ := Bool.and_eq_true_iff.mp h
  obtain ⟨h3, h4⟩ := Bool.and_eq_true_iff.mp h
  exact ⟨h1, h2, of_decide_eq_true h3, of_decide_eq_true h4⟩
theorem bi_ValueError {K : PySem.W.Frag} : PySem.W.findCls K (.type "ValueError") (.type "type") "__init__" = some (.val (.builtin "ValueError.__init__")) := by kernel_rfl
theorem bi_ArithmeticError {K : PySem.W.Frag} : PySem.W.findCls K (.type "ArithmeticError") (.type "type") "__init__" = some (.val (.builtin "ArithmeticError.__init__")) := by kernel_rfl
theorem bi_LookupError {K : PySem.W.Frag} : PySem.W.findCls K (.type "LookupError") (.type "type") "__init__" = some (.val (.builtin "LookupError.__init__")) := by kernel_rfl
theorem bi_IndexError {K : PySem.W.Frag} : PySem.W.findCls K (.type "IndexError") (.type "type") "__init__" = some (.val (.builtin "IndexError.__init__")) := by kernel_rfl
theorem bi_RuntimeError {K : PySem.W.Frag} : PySem.W.findCls K (.type "RuntimeError") (.type "type") "__init__" = some (.val (.builtin "RuntimeError.__init__")) := by kernel_rfl
end Y
namespace Y
open PySem L2
open PySem.Spec PyProof.Rows
open Evl (Ex)

/-! ### t[::-1] of a tuple -/
section
variable {prog : Program} {w : World} {A : Around} {E : Value → Shared → Prop} {s : Shared}
theorem adjust_back (n : Nat) : Builtin.Slice.sliceAdjust none none (-1) (n : Int) = ((n : Int) - 1, -1) := by
  unfold Builtin.Slice.sliceAdjust
  simp
theorem places_back (n : Nat) : Builtin.Slice.slicePlaces ((n : Int) - 1) (-1) (-1) = n := by
  unfold Builtin.Slice.slicePlaces
  have h1 : ¬ ((-1 : Int) > 0) := by omega
  simp only [h1, if_false, show -(-1 : Int) = 1 by decide, Int.ediv_one]
  split <;> omega
theorem pick_back (xs : Array Value) : ((List.range xs.size).filterMap fun (m : Nat) => xs[(((xs.size : Nat) : Int) - 1 + (m : Int) * -1).toNat]?).toArray = xs.toList.reverse.toArray := by
  have h := PySem.W.krv_pick xs
  unfold slicePick at h
  rw [PySem.W.krv_bounds] at h
  have h2 : ((sliceRange ((xs.size : Int) - 1) (-1) (-1)).filterMap (xs[·]?)).toArray = xs.toList.reverse.toArray := h
  rw [PySem.W.krv_sliceRange, List.filterMap_map] at h2
  rw [← h2]
  have e : (List.range xs.size).map (fun (m : Nat) => (((xs.size : Nat) : Int) - 1 + (m : Int) * -1).toNat) = (List.range xs.size).map fun k => xs.size - 1 - k := by
    refine List.map_congr_left fun m hm => ?_
    have hlt := List.mem_range.mp hm
    omega
  have e3 : ((List.range xs.size).filterMap fun (m : Nat) => xs[(((xs.size : Nat) : Int) - 1 + (m : Int) * -1).toNat]?) = ((List.range xs.size).map fun (m : Nat) => (((xs.size : Nat) : Int) - 1 + (m : Int) * -1).toNat).filterMap (xs[·]?) := by
    rw [List.filterMap_map]
    rfl
  rw [e3, e, List.filterMap_map]
theorem applied_back {sl : Addr} {vs : Value} {n : Nat} {Q : Int × Int × Nat → Shared → Prop} (hs : s.heap.IsSliceOf sl .none .none vs) (ps : IsPart vs (some (-1))) (h : Q ((n : Int) - 1, -1, n) s) :
    wpAny (model prog w) A (Builtin.Slice.sliceApplied (.ref sl) (pure (n : Int))) Q E s := by
  obtain ⟨os, hos, hcs, hds⟩ := id hs
  cases ps with
  | int _ t =>
    unfold Builtin.Slice.sliceApplied Builtin.Slice.sliceFields
    refine wpAny_bind (wpAny_bind (wpAny_field hos hds (x := .none) rfl (wpAny_bind (wpAny_field hos hds (x := .none) rfl (wpAny_bind (wpAny_field hos hds (x := .int (-1) t) rfl (wpAny_pure ?_)))))))
    refine wpAny_bind (HT.slicePart_ (.int (-1) t) ?_)
    show wpAny _ _ (if ((-1 : Int) == 0) = true then _ else _) _ _ s
    rw [if_neg (by decide)]
    refine wpAny_bind (HT.slicePart_ .none (wpAny_bind (HT.slicePart_ .none (wpAny_bind (wpAny_pure ?_)))))
    show wpAny _ _ (match Builtin.Slice.sliceAdjust none none (-1) (n : Int) with | (lo, hi) => pure (lo, (-1 : Int), Builtin.Slice.slicePlaces lo hi (-1))) _ _ s
    rw [adjust_back n]
    show wpAny _ _ (pure ((n : Int) - 1, (-1 : Int), Builtin.Slice.slicePlaces ((n : Int) - 1) (-1) (-1))) _ _ s
    rw [places_back]
    exact wpAny_pure h
theorem tuple_back {t sl : Addr} {items : Array Value} {vs : Value} {Q : Value → Shared → Prop} (ht : IsTup s.heap t items) (hs : s.heap.IsSliceOf sl .none .none vs) (ps : IsPart vs (some (-1)))
    (h : Q (.ref s.heap.objs.size) { s with heap := s.heap.push { cls := .type "tuple", data := .seq items.toList.reverse.toArray } }) (hsz : items.size ≤ sizeLine) : wpAny (model prog w) A (getItem (.ref t) (.ref sl)) Q E s := by
  have hok : sizeOk (.seq items.toList.reverse.toArray) := by
    show items.toList.reverse.toArray.size ≤ sizeLine
    rw [List.size_toArray, List.length_reverse, Array.length_toList]
    exact hsz
  obtain ⟨os, hos, hcs, hds⟩ := id hs
  have hTs : s.TypeIs (.ref sl) "slice" := ⟨os, hos, hcs⟩
  unfold getItem
  try with_reducible refine wpAny_holding ?_
  first | refine wpAny_bind (wpAny_pure ?_) | skip
  refine wpAny_bind (wpAny_sequenceKey ht.typeIs (by decide) ?_)
  refine wpAny_bind (wpAny_callSpecial?_slot (name := Str.ofString "__getitem__") ht.typeIs PyProof.Rows.slot_tuple_getitem (wpAny_call_entry PyProof.Rows.slot_tuple_getitem ht.typeIs entry_tuple_getitem ?_ (args_tuple_getitem _ _)))
  show wpAny _ _ (Builtin.Tuple.tupleItemsOf (.ref t) >>= _) _ _ s
  refine wpAny_bind (tupleItemsOf_ ht ?_)
  refine wpAny_bind (wpAny_typeOf hTs ?_)
  rw [if_pos (by decide)]
  refine wpAny_bind (applied_back hs ps ?_)
  have hno : ¬ ((((items.size : Nat) : Int) - 1 == 0 && (-1 : Int) == 1 && items.size == items.size) = true) := by
    intro q
    rw [Bool.and_eq_true, Bool.and_eq_true] at q
    exact absurd (eq_of_beq q.1.2) (by decide)
  show wpAny _ _ (if (((items.size : Nat) : Int) - 1 == 0 && (-1 : Int) == 1 && items.size == items.size) = true then _ else _) _ _ s
  rw [if_neg hno, pick_back]
  first
    | exact wpAny_bind (m := Builtin.Tuple.tupleExact _) (wpAny_newObj_type (wpAny_pure ⟨_, rfl, wpAny_pure h⟩) hok)
    | exact wpAny_bind (m := Builtin.Tuple.tupleExact _) (wpAny_newObj_type (wpAny_bind (wpAny_pure (wpAny_pure ⟨_, rfl, wpAny_pure h⟩))) hok)
    | exact wpAny_bind (wpAny_bind (m := Builtin.Tuple.tupleExact _) (wpAny_newObj_type (wpAny_pure (wpAny_pure ⟨_, rfl, wpAny_pure h⟩)) hok))
    | exact wpAny_bind (wpAny_bind (m := Builtin.Tuple.tupleExact _) (wpAny_newObj_type (wpAny_pure ⟨_, rfl, wpAny_pure h⟩) hok))
end
section
variable {X : Cx} {e : Expr} {te : TE}
def tRevT (K : PySem.W.Frag) (te : TE) : TE := fun σ H Q => te σ H fun x H1 => ∃ a xs, x = .ref a ∧ SqT K H1 a xs ∧ ∀ p, H1 p = none → Q (.ref p) (upd H1 p (.tup xs.reverse))
theorem pe_revT {k : Nat} {p1 p2 p3 pos : Pos} (he : PE X e te) : PE X (.Subscript e (.Slice none none (some (.UnaryOp .USub (.Constant (.int 1) k p1) p2)) p3) pos) (tRevT X.K te) := by
  refine ⟨fun pins s σ H Q I h => ?_⟩
  refine Subscript_ (thn (he.run pins s σ H _ I h) fun v s1 ⟨x, H1, I1, r1, q1⟩ => ?_)
  obtain ⟨a, xs, ex, hx, q⟩ := q1
  subst ex
  cases r1
  have hst : PO X (some (.UnaryOp .USub (.Constant (.int 1) k p1) p2)) (tPart (tUn (rU fun i => .int (-i)) (tC (.int 1)))) := po_some (pe_un un_neg pe_int)
  refine wpAny_Slice (thn (po_none.run pins s1 σ H1 (fun o H2 => o = none ∧ H2 = H1) I1 ⟨rfl, rfl⟩) fun vl s2 ⟨l, H2, I2, pl, el, e2⟩ => ?_)
  subst el e2
  refine thn (po_none.run pins s2 σ H2 (fun o H3 => o = none ∧ H3 = H2) I2 ⟨rfl, rfl⟩) fun vu s3 ⟨u, H3, I3, pu, eu, e3⟩ => ?_
  subst eu e3
  refine thn (hst.run pins s3 σ H3 (fun o H4 => o = some (-1) ∧ H4 = H3) I3 ⟨1, rfl, -1, rfl, rfl, rfl⟩) fun vs s4 ⟨o, H4, I4, ps, eo, e4⟩ => ?_
  subst eo e4
  have I5 : Inv X pins σ H4 { s4 with heap := s4.heap.push { cls := .type "slice", data := .fields #[vl, vu, vs] } } := I4.kept (t' := s4.toks) fun b ob q => Heap.get?_push_of_some _ q
  cases pl
  cases pu
  obtain ⟨its, r, ht, hz⟩ := I5.tuple hx
  have hlen := r.length
  refine tail_any (ops := [.ref a, .ref s4.heap.objs.size]) ht.typeIs (PyProof.Rows.slot_tuple_getitem.lookup) ?_ (by with_unfolding_all rfl)
  refine tuple_back ht (Heap.IsSliceOf.new _ _ _ vs) ps ?_ (by rw [List.size_toArray]; omega)
  refine ⟨.ref _, _, I5.laid (t' := s4.toks) (o := .tup xs.reverse) (fun b ob q => Heap.get?_push_of_some _ q) (Nat.le_refl _) ?_, rfl, q _ (I5.hok.fresh (Nat.le_refl _))⟩
  exact ⟨by rw [List.length_reverse]; exact hz, _, r.reverse, ⟨_, Heap.get?_push_size _ rfl, rfl, _, rfl⟩⟩
end
/-- t[::-1] | xs[::-1] -/
def dRevT (d : DE) : DE := fun st k x => d st (fun r st1 => match r.val st1 with
  | some (.tup ws) => k (.w (.tup ws.reverse)) st1
  | _ => False) x
def lRev (d : DE) : DL := fun st k x => d st (fun r st1 => match r.val st1 with
  | some (.lst ws) => k ws.reverse st1
  | _ => False) x
section
variable {X : Cx} {Z : Zx} {E : XS} {e : Expr} {da : DE} {k : Nat} {p1 p2 p3 pos : Pos}
theorem pd_revT (he : PD X Z E e da) : PD X Z E (.Subscript e (.Slice none none (some (.UnaryOp .USub (.Constant (.int 1) k p1) p2)) p3) pos) (dRevT da) := by
  refine pe_weak (pe_revT he) fun σ H Q q => ?_
  obtain ⟨H0, F, G, pv, st, kk, kx, wd, ss, hd, hk, hx⟩ := q
  refine tE_seq wd ss hx hd fun H1 G1 H1' st1 v r e1 wd1 ss1 rr k1 => ?_
  have k1 : (match r.val st1 with | some (W.tup ws) => kk (.w (.tup ws.reverse)) st1 | _ => False) := k1
  cases q1 : r.val st1 with
  | none => rw [q1] at k1; exact k1.elim
  | some w =>
    rw [q1] at k1
    cases w with
    | tup ws =>
      obtain ⟨p, xs, rfl, h1, rs⟩ := (rr.peek ss1 wd1 q1).tup_of wd1.ex
      refine ⟨p, xs, rfl, h1, fun p' hn => ?_⟩
      have g := Gr.one (o := .tup xs.reverse) wd1.ex hn
      exact hk _ _ _ _ _ _ (e1.trans g.e0) (wd1.grow g) (ss1.mono g.e0) (.w (.tup (.of upd_same) (rs.mono g.e0).reverse)) k1
    | _ => exact k1.elim
theorem pl_rev (he : PD X Z E e da) : PLD X Z E (.Subscript e (.Slice none none (some (.UnaryOp .USub (.Constant (.int 1) k p1) p2)) p3) pos) (lRev da) := by
  refine pe_weak (pe_revL he) fun σ H Q q => ?_
  obtain ⟨H0, F, G, pv, st, kk, kx, wd, ss, hd, hk, hx⟩ := q
  refine tE_seq wd ss hx hd fun H1 G1 H1' st1 v r e1 wd1 ss1 rr k1 => ?_
  have k1 : (match r.val st1 with | some (W.lst ws) => kk ws.reverse st1 | _ => False) := k1
  cases q1 : r.val st1 with
  | none => rw [q1] at k1; exact k1.elim
  | some w =>
    rw [q1] at k1
    cases w with
    | lst ws =>
      obtain ⟨p, xs, rfl, h1, rs⟩ := (rr.peek ss1 wd1 q1).lst_of wd1.ex
      exact ⟨p, xs, rfl, .of h1, fun p' hp => hk _ _ _ _ _ _ _ e1 (wd1.hand hp) (wd1.free hp).2.1 ss1 rs.reverse k1⟩
    | _ => exact k1.elim
end
/-! ### range(i, j, c), c 1 or -1 -/
def iRg3 (a : DA) : DI := fun st k x => a st (fun rs st1 => match rs with
  | [.w (.int i), .w (.int j), .w (.int c)] => (-(2 ^ 62) ≤ i ∧ i < 2 ^ 62 ∧ -(2 ^ 62) ≤ j ∧ j < 2 ^ 62) ∧ ((c = 1 ∧ k ((List.range (j - i).toNat).map fun (n : Nat) => .int (i + n)) st1) ∨ (c = -1 ∧ k ((List.range (i - j).toNat).map fun (n : Nat) => .int (i - n)) st1))
  | _ => False) x
theorem it_rangeC {K : PySem.W.Frag} {Z : Zx} {H0 : Hp} (lo c : Int) (n : Nat) : ItOk K Z H0 (Itc lo c n) ((List.range n).map fun (i : Nat) => W.int (lo + (i : Nat) * c)) := fun i H Hc e e' => by
  refine ⟨fun hl => show n ≤ i by simpa using hl, fun w hw => ?_⟩
  rw [List.getElem?_map] at hw
  obtain ⟨j, h1, rfl⟩ := Option.map_eq_some_iff.mp hw
  obtain ⟨h2, h3⟩ := List.getElem?_eq_some_iff.mp h1
  rw [List.getElem_range] at h3
  subst h3
  refine ⟨show i < n by simpa using h2, fun x H' y => ?_⟩
  obtain ⟨rfl, rfl⟩ := y
  exact ⟨Hc, Gr.refl e', .int⟩
theorem rgC_up {i j : Int} (ha : -(2 ^ 62) ≤ i) (ha' : i < 2 ^ 62) (hb : -(2 ^ 62) ≤ j) (hb' : j < 2 ^ 62) : RgC i j 1 (j - i).toNat := by
  refine ⟨by decide, by decide, small_one ha ha' hb hb', ?_⟩
  rw [rangeSize_one]
  split <;> omega
section
variable {X : Cx} {Z : Zx} {E : XS} {tg a b c : Expr} {ds : DA} {p pos : Pos}
theorem pid_range3 (hg : Gl X "range") (hm : X.mg "range" = none) (ha : PAD X Z E [a, b, c] ds) (hs : starEach [a, b, c] X.env = (false, eval a X.env) :: starEach [b, c] X.env := by rfl)
    (hpl : (backTo pos (starEach [b, c] X.env)).any (·.1) = false := by rfl) : PID X Z E tg (.Call (.Name "range" p) [a, b, c] [] pos) (iRg3 ds) := by
  refine pi_weak (pi_range3 hg hm ha hs hpl) fun σ H Q q => ?_
  obtain ⟨H0, F, G, pv, st, k, kx, wd, ss, hd, hk, hx⟩ := q
  refine tA_seq wd ss hx hd fun H1 G1 H1' st1 vs rs e1 wd1 ss1 rr k1 => ?_
  split at k1
  · cases rr with
    | cons r rr =>
      cases rr with
      | cons r2 rr =>
        cases rr with
        | cons r3 rr =>
          cases rr
          cases r with
          | w rv =>
            cases rv
            cases r2 with
            | w rv =>
              cases rv
              cases r3 with
              | w rv =>
                cases rv
                obtain ⟨⟨h1, h2, h3, h4⟩, k1⟩ := k1
                rcases k1 with ⟨rfl, k1⟩ | ⟨rfl, k1⟩
                · refine ⟨_, _, 1, _, rfl, rgC_up h1 h2 h3 h4, hk _ _ _ _ _ _ e1 wd1 ss1 (it_rangeC _ _ _) ?_⟩
                  simp only [Int.mul_one]
                  exact k1
                · refine ⟨_, _, -1, _, rfl, RgC.neg h1 h2 h3 h4, hk _ _ _ _ _ _ e1 wd1 ss1 (it_rangeC _ _ _) ?_⟩
                  have e : ∀ (i : Int) (n : Nat), i + (n : Int) * -1 = i - n := fun i n => by omega
                  simp only [e]
                  exact k1
  · exact k1.elim
end

/-! ### a method of a fresh list -/
def dMutF (f : List W → List W → (W → List W → Prop) → Prop) (d : DW) (a : DA) : DE := fun st k x => d st (fun t st0 => match t with
  | .lst xs => a st0 (fun rs st1 => match frs' rs with
    | some us => f us xs fun w _ => k (.w w) st1
    | none => False) x
  | _ => False) x
section
variable {X : Cx} {Z : Zx} {E : XS} {o e : Expr} {dw : DW} {ds : DA} {apos cpos : Pos}
theorem dmutF_ok {f : List W → List W → (W → List W → Prop) → Prop} {r : V → List V → Hp → VK → Prop} (hm : MutD X.K Z r f) {σ : L2.St} {H : Hp} {Q : VK} (q : tE X.K Z E (dMutF f dw ds) σ H Q) : tBM X.K "list" r (tW X.K Z E dw) (tAr X.K Z E ds) σ H Q := by
  obtain ⟨H0, F, G, pv, st, k, kx, wd, ss, hd, hk, hx⟩ := q
  refine tW_seq wd ss hx hd fun H1 Gv G1 H1' st1 v t e1 wd1 rt ss1 k1 => ?_
  cases t with
  | lst xs =>
    cases rt with
    | @lst p xs' _ rs0 =>
      have k1 : ds st1 (fun rs st1 => match frs' rs with | some us => f us xs fun w _ => k (.w w) st1 | none => False) kx := k1
      have wd2 : Wd H1 F (G1 ++ [(p, .lst xs')]) H1' := wd1.perm List.perm_append_comm
      have hp0 : H1' p = some (.lst xs') := wd2.ow (p, _) (by simp)
      refine ⟨.inl ⟨rfl, _, .of hp0⟩, ?_⟩
      refine tA_seq wd2.toCall ss1 ⟨hx.tabs.add wd2, fun H0' G' H' st' cls dx x e wd' ss' rx kk => ?_⟩ k1 fun H2 G2 H2' st2 vs rs e2 wd3 ss2 rrs k2 => ?_
      · have w3 : Wd H0' F (G' ++ [(p, .lst xs')] ++ []) H' := by
          rw [List.append_nil]
          exact wd2.ofCall wd'
        have w4 := w3.less
        rw [List.append_nil] at w4
        exact hx _ _ _ _ _ _ _ (e1.trans e) w4 ss' rx kk
      · have k2 : (match frs' rs with | some us => f us xs fun w _ => k (.w w) st2 | none => False) := k2
        cases q2 : frs' rs with
        | none => rw [q2] at k2; exact k2.elim
        | some us =>
          rw [q2] at k2
          have wd4 : Wd H2 F (G2 ++ [(p, .lst xs')] ++ []) H2' := by
            rw [List.append_nil]
            exact wd2.ofCall wd3
          have hp : H2' p = some (.lst xs') := wd4.ow (p, _) (by simp)
          refine hm H2 H2' p xs' xs vs us _ Q wd4.ex hp (rs0.mono e2) (rrs.frs q2) k2 fun v w ys zs rv ry kk => ?_
          have w5 := (wd4.write (o' := .lst ys)).less
          rw [List.append_nil] at w5
          exact hk _ _ _ _ _ _ (e1.trans e2) w5 ss2 (.w rv) kk
  | _ => exact k1.elim
theorem pd_appendF (ho : PVD X Z E o dw) (ha : PAD X Z E [e] ds)
    (hbase : attributeBase o "append" X.env (eval o X.env) = eval o X.env := by rfl)
    (hfew : ((backTo cpos (starEach [e] X.env)).all (fun x => !x.1) && (backToKw cpos (keywordEach [] X.env)).all (fun x => x.1.isSome)
      && decide ([e].length + ([] : List Keyword).length + (if ([] : List Keyword).isEmpty then 0 else 1) < 30)) = true := by rfl)
    (hline : (apos.endLine == cpos.line) = true := by rfl) (hs : starEach [e] X.env = (false, eval e X.env) :: starEach [] X.env := by rfl) (hplain : (backTo cpos (starEach [] X.env)).any (·.1) = false := by rfl) :
    PD X Z E (.Call (.Attribute o "append" apos) [e] [] cpos) (dMutF fAppend dw ds) :=
  pe_weak (pe_bm PySem.F.plainAttrs_list PySem.F.slot_list_append PySem.F.type_list_append mt_append ho ha hbase hfew hline hs hplain) fun _ _ _ => dmutF_ok mut_append
end
end Y
namespace Y
open PySem L2
open PySem.Spec PyProof.Rows
open Evl (Ex)

/-! ### a or b, a and b of whatever -/
def dOrX (a b : DE) : DE := fun st k x => a st (fun r st1 => match (r.val st1).bind tru with
  | some c => (c = true → k r st1) ∧ (c = false → b st1 k x)
  | none => False) x
def dAndX (a b : DE) : DE := fun st k x => a st (fun r st1 => match (r.val st1).bind tru with
  | some c => (c = true → b st1 k x) ∧ (c = false → k r st1)
  | none => False) x
section
variable {X : Cx} {Z : Zx} {E : XS} {a b : Expr} {da db : DE} {pos : Pos}
theorem pd_orX {rest : List Expr} (ha : PD X Z E a da) (hb : PD X Z E (.BoolOp .Or (b :: rest) pos) db) : PD X Z E (.BoolOp .Or (a :: b :: rest) pos) (dOrX da db) := by
  refine pe_weak (pe_orT ha hb) fun σ H Q q => ?_
  obtain ⟨H0, F, G, pv, st, k, kx, wd, ss, hd, hk, hx⟩ := q
  refine tE_seq wd ss hx hd fun H1 G1 H1' st1 v r e1 wd1 ss1 rr k1 => ?_
  cases q1 : (r.val st1).bind tru with
  | none => rw [q1] at k1; exact k1.elim
  | some c =>
    rw [q1] at k1
    obtain ⟨w, h1, h2⟩ := Option.bind_eq_some_iff.mp q1
    refine ⟨c, tru_val wd1.ex (rr.peek ss1 wd1 h1) h2, ?_⟩
    cases c with
    | true => exact iteT (hk _ _ _ _ _ _ e1 wd1 ss1 rr (k1.1 rfl))
    | false => exact iteF (tE_seq wd1 ss1 (hx.up e1) (k1.2 rfl) (hk.up e1))
theorem pd_andX {rest : List Expr} (ha : PD X Z E a da) (hb : PD X Z E (.BoolOp .And (b :: rest) pos) db) : PD X Z E (.BoolOp .And (a :: b :: rest) pos) (dAndX da db) := by
  refine pe_weak (pe_andT ha hb) fun σ H Q q => ?_
  obtain ⟨H0, F, G, pv, st, k, kx, wd, ss, hd, hk, hx⟩ := q
  refine tE_seq wd ss hx hd fun H1 G1 H1' st1 v r e1 wd1 ss1 rr k1 => ?_
  cases q1 : (r.val st1).bind tru with
  | none => rw [q1] at k1; exact k1.elim
  | some c =>
    rw [q1] at k1
    obtain ⟨w, h1, h2⟩ := Option.bind_eq_some_iff.mp q1
    refine ⟨c, tru_val wd1.ex (rr.peek ss1 wd1 h1) h2, ?_⟩
    cases c with
    | false => exact iteF (hk _ _ _ _ _ _ e1 wd1 ss1 rr (k1.2 rfl))
    | true => exact iteT (tE_seq wd1 ss1 (hx.up e1) (k1.1 rfl) (hk.up e1))
end

/-! ### a loop over whatever: also over a caller's own list, which stays -/
def forG (ok : S → Prop) (fg : List Nat) (g : DG) (body : DS) (D : DEnds) : List W → S → Prop
  | [], st => ok st ∧ D.nx (wipeS st fg)
  | w :: ws, st => ok st ∧ g w (wipeS st fg) fun st1 => body { D with nx := forG ok fg g body D ws, ct := forG ok fg g body D ws, bk := fun st => D.nx (wipeS st fg) } st1
def dForV (fg : List Nat) (d : DE) (g : DG) (body : DS) : DS := fun D st => d st (fun r st1 => match r with
  | .w (.lst ws) => forW fg g body D ws st1
  | .w (.tup ws) => forW fg g body D ws st1
  | .w (.str z) => forW fg g body D (z.cps.toList.map fun c => .str ⟨#[c]⟩) st1
  | .pk i => (match at' st1 i with
    | .mp k (.lst ws) => forG (fun st => at' st i = .mp k (.lst ws)) fg g body D ws st1
    | _ => False)
  | _ => False) D.ex
section
variable {X : Cx} {Z : Zx} {E : XS} {F : Hp} {pv : List V} {H0 H1 : Hp} {fg : List Nat} {g : DG} {d : DS} {DD : DEnds} {D : Ends}
theorem loopG {J : It} {ws : List W} {ok : S → Prop} {G1 : Fp} {H1' : Hp} {st1 : S} {σ : L2.St} (hJ : ∀ (i : Nat) (H Hc : Hp) (G : Fp) (st2 : S) (σ2 : L2.St), Ex H1 Hc → Wd Hc F G H → Sts X.K Z Hc pv σ2 st2 G → ok st2 →
      (ws.length ≤ i → J.stop i H) ∧ ∀ w, ws[i]? = some w → J.go i H ∧ ∀ x H', J.yld i H x H' → ∃ Hc', Gr Hc H Hc' H' ∧ Rep X.K Z Hc' x w)
    (wd1 : Wd H1 F G1 H1') (ss1 : Sts X.K Z H1 pv σ st1 G1) (e1 : Ex H0 H1) (ha : AccD X.K Z E F pv H0 DD D) (k1 : forG ok fg g d DD ws st1) :
    ∃ W : Nat → Nat → L2.St → Hp → Prop, (∃ m, W 0 m σ H1') ∧ ∀ i m σ H, W i m σ H → (J.stop i H ∧ D.nx σ H) ∨ (J.go i H ∧ ∃ N : L2.St → Hp → Prop, (∀ σ' H', N σ' H' → ∃ m', m' < m ∧ W (i + 1) m' σ' H') ∧ ∀ x H', J.yld i H x H' → tG X.K Z g x σ H' fun σ2 H2 => tS X.K Z E d { D with nx := N, ct := N, bk := D.nx } σ2 H2) := by
  refine ⟨fun i m σ H => m = ws.length - i ∧ ∃ H2 G2 st2, Ex H1 H2 ∧ Wd H2 F G2 H ∧ Sts X.K Z H2 pv σ st2 G2 ∧ forG ok fg g d DD (ws.drop i) st2, ⟨_, rfl, H1, G1, st1, Ex.refl _, wd1, ss1, k1⟩, ?_⟩
  rintro i m σ2 H2' ⟨rfl, H2, G2, st2, e2, wd2, ss2, k2⟩
  have hok : ok st2 := by
    cases q : ws.drop i with
    | nil => rw [q] at k2; exact k2.1
    | cons w r => rw [q] at k2; exact k2.1
  obtain ⟨hstop, hgo⟩ := hJ i H2' H2 G2 st2 σ2 e2 wd2 ss2 hok
  obtain ⟨G2', wd2', ss2'⟩ := ss2.dropAll wd2 fg
  by_cases hl : ws.length ≤ i
  · refine .inl ⟨hstop hl, ?_⟩
    rw [List.drop_eq_nil_of_le hl] at k2
    exact ha.nx _ _ _ _ _ (e1.trans e2) wd2' ss2' k2.2
  · have hlt : i < ws.length := Nat.lt_of_not_le hl
    obtain ⟨go, step⟩ := hgo ws[i] (List.getElem?_eq_getElem hlt)
    refine .inr ⟨go, fun σ' H' => ∃ H3 G3 st3, Ex H1 H3 ∧ Wd H3 F G3 H' ∧ Sts X.K Z H3 pv σ' st3 G3 ∧ forG ok fg g d DD (ws.drop (i + 1)) st3, fun σ' H' ⟨H3, G3, st3, e3, wd3, ss3, k3⟩ => ⟨ws.length - (i + 1), by omega, rfl, H3, G3, st3, e3, wd3, ss3, k3⟩, fun x H' y => ?_⟩
    obtain ⟨Hc, gr, rx⟩ := step x H' y
    rw [List.drop_eq_getElem_cons hlt] at k2
    refine ⟨Hc, F, G2', pv, wipeS st2 fg, ws[i], _, wd2'.grow gr, ss2'.mono gr.e0, rx, k2.2, ⟨ha.ex.tabs, fun H4 G4 H4' σ4 st4 e4 wd4 ss4 k4 => ?_⟩⟩
    have e14 : Ex H1 H4 := e2.trans (gr.e0.trans e4)
    refine tS_seq wd4 ss4 k4 ⟨fun H5 G5 H5' σ5 st5 e5 wd5 ss5 k5 => ⟨H5, G5, st5, e14.trans e5, wd5, ss5, k5⟩, ha.rt.up (e1.trans e14), fun H5 G5 H5' σ5 st5 e5 wd5 ss5 k5 => ?_, fun H5 G5 H5' σ5 st5 e5 wd5 ss5 k5 => ⟨H5, G5, st5, e14.trans e5, wd5, ss5, k5⟩, ha.ex.up (e1.trans e14)⟩
    obtain ⟨G6, wd6, ss6⟩ := ss5.dropAll wd5 fg
    exact ha.nx _ _ _ _ _ (e1.trans (e14.trans e5)) wd6 ss6 k5
theorem forG_true : ∀ ws : List W, forG (fun _ => True) fg g d DD ws = forW fg g d DD ws
  | [] => by
    funext st
    exact true_and _
  | w :: ws => by
    funext st
    show (True ∧ _) = _
    rw [true_and, forG_true ws]
    rfl
end
section
variable {X : Cx} {Z : Zx} {E : XS} {tg e : Expr} {da : DE} {g : DG} {body : List Stmt} {d : DS} {pos : Pos}
theorem z_forV {fg : List Nat} (hp : PassesOwn (model X.prog X.w) X.A X.env X.xe) (hc : X.calm = true) (he : PD X Z E e da) (hg : PGD X Z tg g) (hb : PZs X Z E body d)
    (hs : ∀ x, foldedSetIterable e X.env x = pure x := by intro _; rfl) : PZ X Z E (.For tg e body [] pos) (dForV fg da g d) := by
  refine ps_weak (ps_for hp hc (pi_sq he) hg hb hs) fun D σ H q => ?_
  obtain ⟨H0, F, G, pv, st, DD, wd, ss, hd, ha⟩ := q
  refine tE_seq wd ss ha.ex.at hd fun H1 G1 H1' st1 v r e1 wd1 ss1 rr k1 => ?_
  have frz : ∀ {J : It} {ws : List W}, ItOk X.K Z H1 J ws → forW fg g d DD ws st1 → _ := fun {J ws} it k1 => loopG (F := F) (pv := pv) (ok := fun _ => True) (fun i H Hc G st2 σ2 ex wd _ _ => it i H Hc ex wd.ex) wd1 ss1 e1 ha (by rw [forG_true]; exact k1)
  cases rr with
  | w rv => cases rv with
    | lst hs rs => exact .inl ⟨_, rfl, ⟨_, .of (wd1.ex _ _ hs)⟩, frz (it_list (.of hs) rs) k1⟩
    | tup hs rs => exact .inr (.inl ⟨_, rfl, ⟨_, Evl.ex_t wd1.ex hs⟩, frz (it_tup hs rs) k1⟩)
    | str => exact .inr (.inr ⟨_, rfl, frz (it_str _) k1⟩)
    | _ => exact k1.elim
  | @pk i hv =>
    replace k1 : (match at' st1 i with | .mp k (.lst ws) => forG (fun st => at' st i = .mp k (.lst ws)) fg g d DD ws st1 | _ => False) := k1
    cases q : at' st1 i with
    | un => rw [q] at k1; exact k1.elim
    | lo t => rw [q] at k1; exact k1.elim
    | fr _ _ _ _ _ _ => rw [q] at k1; exact k1.elim
    | mp k t =>
      rw [q] at k1
      cases t with
      | lst ws =>
        obtain ⟨v', Gx, Ga, Gb, h1, h2, h3, h4, _⟩ := ss1.mp_at q
        rw [hv] at h1
        cases h1
        cases h3 with
        | @lst p xs _ rs =>
          have hp0 : H1' p = some (.lst xs) := wd1.ow (p, _) (by rw [h4]; simp)
          refine .inl ⟨p, rfl, ⟨xs, .of hp0⟩, loopG (F := F) (pv := pv) (ok := fun st => at' st i = .mp k (.lst ws)) (fun j H Hc G st2 σ2 ex wd ss ok => ?_) wd1 ss1 e1 ha k1⟩
          obtain ⟨v2, Gx2, Ga2, Gb2, g1, g2, g3, g4, _⟩ := ss.mp_at ok
          rw [h2] at g2
          cases g2
          cases g3 with
          | @lst _ ys _ rs2 =>
            have hp1 : H p = some (.lst ys) := wd.ow (p, _) (by rw [g4]; simp)
            refine ⟨fun hl => ⟨ys, .of hp1, by rw [rs2.length]; exact hl⟩, fun w hw => ?_⟩
            obtain ⟨u, u1, u2⟩ := rs2.get hw
            refine ⟨⟨ys, u, .of hp1, u1⟩, fun x H' y => ?_⟩
            obtain ⟨rfl, y⟩ := y
            have z := y ys (.of hp1)
            rw [u1] at z
            cases z
            exact ⟨Hc, Gr.refl wd.ex, u2⟩
      | _ => exact k1.elim
end
end Y
namespace Y
open PySem L2
open PySem.Spec PyProof.Rows
open Evl (Ex)

/-! ### x, ys = a, [..]: the second one owned -/
def dParO (i j : Nat) (a : DE) (dl : DL) : DS := fun D st => a st (fun r st1 => match r with
  | .w x => dl st1 (fun ws st2 => stoT st2 j (.lst ws) fun st3 => sto st3 i (.fz x) D.nx) D.ex
  | _ => False) D.ex
section
variable {X : Cx} {Z : Zx} {E : XS} {a b : Expr} {da : DE} {dl : DL} {pos : Pos}
theorem z_parO {i j : Nat} {x y : Str} {px py pt : Pos} {kt k2 pt2} (hc : X.calm = true) (hN : X.N.Nodup) (hi : X.N[i]? = some x) (hj : X.N[j]? = some y) (hij : i ≠ j)
    (hx : X.env.scope.names.lookup x = some .local) (hy : X.env.scope.names.lookup y = some .local) (ha : PD X Z E a da) (hb : PLD X Z E b dl)
    (hw : swappedStores [.Tuple [.Name x px, .Name y py] kt pt] (.Tuple [a, b] k2 pt2) X.env = pure (some [x, y]))
    (hs : swapsWithSole [.Tuple [.Name x px, .Name y py] kt pt] (.Tuple [a, b] k2 pt2) pos.line X.env = pure false := by rfl)
    (hs1 : starEach [a, b] X.env = (false, eval a X.env) :: starEach [b] X.env := by rfl) (hs2 : starEach [b] X.env = (false, eval b X.env) :: starEach [] X.env := by rfl) :
    PZ X Z E (.Assign [.Tuple [.Name x px, .Name y py] kt pt] (.Tuple [a, b] k2 pt2) pos) (dParO i j da dl) := by
  refine ps_weak (ps_par hc hN hi hj hij hx hy (pa_cons ha (pa_cons hb pa_nil hs2) hs1) hw hs) fun D σ H q => ?_
  obtain ⟨H0, F, G, pv, st, DD, wd, ss, hd, acc⟩ := q
  refine tE_seq wd ss acc.ex.at hd fun H1 G1 H1' st1 v r e1 wd1 ss1 rr k1 => ?_
  cases rr with
  | pk _ => exact k1.elim
  | @w w0 rv =>
    have k1 : dl st1 (fun ws st2 => stoT st2 j (.lst ws) fun st3 => sto st3 i (.fz w0) DD.nx) DD.ex := k1
    refine tL_seq wd1 ss1 (acc.ex.up e1).at k1 fun H2 G2 H2' st2 p xs ws e2 wd2 hF ss2 rs k2 => ?_
    obtain ⟨G3, wd3, ss3, k3⟩ := stoT_ok (Gv := [(p, .lst xs)]) (wd2.hand_own hF) ss2 (.lst rs) k2
    obtain ⟨G4, wd4, ss4, k4⟩ := sto_ok wd3 ss3 (rv.mono e2) k3
    have ss5 := ss4
    rw [List.set_comm _ _ (Ne.symm hij)] at ss5
    exact ⟨_, _, rfl, acc.nx _ _ _ _ _ (e1.trans e2) wd4 ss5 k4⟩
end
end Y
namespace Y
open PySem L2
open PySem.Spec PyProof.Rows
open Evl (Ex)

/-! ### an instance made of a name's own thing -/
def dMakeP (c : Ct) (cid : Nat) (pl : List Src) (dws : List W) (n m : Nat) (a ak : DA) : DW := fun st k x => a st (fun rs st1 => ak st1 (fun zs st2 =>
  okN n m rs zs (pick pl rs (dws.map .w) zs) = true ∧ match argT st2 (pick pl rs (dws.map .w) zs) with
  | some ts => c (.ins cid [] :: ts) (fun t ts' => match t, ts' with
    | .fz .non, me :: ts'' => k me (setA st2 (pick pl rs (dws.map .w) zs) ts'')
    | _, _ => False) (fun e ts' => match ts' with
    | _ :: ts'' => x e (setA st2 (pick pl rs (dws.map .w) zs) ts'')
    | [] => False)
  | none => False) x) x
section
variable {X : Cx} {Z : Zx} {E : XS} {e : Expr} {es : List Expr} {kws : List Keyword} {ds dk : DA} {p pos : Pos} {x : Str} {C f : Addr} {k n : Nat} {fd : FuncData} {ps : List Str} {c : Ct} {CX' : CXT} {dvs : List V} {dws : List W} {pl : List Src} {ks : List Str} {g : List Value → List Value → List Value}
theorem makeP_go {cid : Nat} (hz : Z.has cid = true) {K : PySem.W.Frag} {σ : L2.St} {H0 H F : Hp} {G : Fp} {pv : List V} {st : S} {vs dvs zs : List V} {fin : List R} {k : T → S → Prop} {kx : KX} {Q : VK} (wd : Wd H0 F G H) (ss : Sts K Z H0 pv σ st G) (rr : RepRs K Z H0 σ (pick pl vs dvs zs) fin)
    (hb : onePk fin = true) (h : match argT st fin with
      | some ts => c (.ins cid [] :: ts) (fun t ts' => match t, ts' with
        | .fz .non, me :: ts'' => k me (setA st fin ts'')
        | _, _ => False) (fun e ts' => match ts' with
        | _ :: ts'' => kx e (setA st fin ts'')
        | [] => False)
      | none => False) (hk : AccW K Z F pv σ H0 k Q) (hx : AccXe K Z E F pv σ H0 kx) :
    ∀ x dx, H x = none → H dx = none → dx ≠ x → spOf K Z c (pick (shp pl) (.ref x :: vs) dvs zs) (upd (upd H dx (.own x)) x (.ins (Z.cls cid) dx [])) (fun v H2 => v = .non ∧ Q (.ref x) H2) (fun cls d H => E cls d σ H) := by
  cases q : argT st fin with
  | none => rw [q] at h; exact h.elim
  | some ts =>
    rw [q] at h
    intro x dx hxn hdn hne
    obtain ⟨Ga, Gr, pm, ra, back⟩ := args_split ss rr hb q
    have hx2 : (upd H dx (.own x)) x = none := by rw [upd_ne (fun z => hne z.symm)]; exact hxn
    have wd1 : Wd H0 F (Ga ++ Gr) H := wd.perm pm.symm
    have wd2 : Wd H0 F ((x, .ins (Z.cls cid) dx []) :: (Ga ++ Gr)) (upd (upd H dx (.own x)) x (.ins (Z.cls cid) dx [])) := Wd.own (Ga := []) (Gb := Ga ++ Gr) (wd1.junk hdn) hx2
    have r0 : RepT K Z H0 (.ref x) (.ins cid []) ([(x, .ins (Z.cls cid) dx [])]) := .ins (G := []) hz rfl .nil
    have w3 : Wd H0 F (([(x, HO.ins (Z.cls cid) dx [])] ++ Ga) ++ Gr) (upd (upd H dx (.own x)) x (.ins (Z.cls cid) dx [])) := by
      rw [List.append_assoc]
      exact wd2
    rw [pick_sh]
    refine ⟨H0, addF F Gr, [(x, .ins (Z.cls cid) dx [])] ++ Ga, _, _, _, w3.toCall, .cons r0 ra, h, fun H0' Gv Ga' H' v t ts' ex wd4 rt rts kt => ?_, fun H0' Ga' H' ts' cls d' xw ex wd4 rts rx kt => ?_, hx.tabs.add w3⟩
    · have w5 := w3.ofCall wd4
      cases t with
      | fz wv =>
        cases wv with
        | non =>
          cases rt with
          | fz rt =>
            cases rt
            cases rts with
            | @cons _ me _ ts2 Gm G2 r1 r2 =>
              have r2' : RepTs K Z H0' (pick pl vs dvs zs ++ []) ts2 G2 := by rw [List.append_nil]; exact r2
              obtain ⟨G', Gd, p2, s2⟩ := back H0' [] ts2 G2 ex r2'
              refine ⟨rfl, hk H0' Gm G' H' _ (.ref x) me ex (w5.sub (Gd := Gd) ?_) r1 s2 kt⟩
              show ([] ++ (Gm ++ G2) ++ Gr).Perm (Gm ++ G' ++ Gd)
              rw [List.nil_append, List.append_assoc, List.append_assoc]
              exact List.Perm.append_left Gm p2
        | _ => exact kt.elim
      | _ => exact kt.elim
    · have w5 := w3.ofCall wd4
      cases rts with
      | @cons _ me _ ts2 Gm G2 r1 r2 =>
        have r2' : RepTs K Z H0' (pick pl vs dvs zs ++ []) ts2 G2 := by rw [List.append_nil]; exact r2
        obtain ⟨G', Gd, p2, s2⟩ := back H0' [] ts2 G2 ex r2'
        refine hx H0' G' H' _ cls d' xw ex (w5.sub (Gd := Gd ++ Gm) ?_) s2 rx kt
        have b : (Gm ++ G2 ++ Gr).Perm (G' ++ (Gd ++ Gm)) := by
          rw [List.append_assoc, ← List.append_assoc G' Gd Gm]
          exact (List.Perm.append_left Gm p2).trans List.perm_append_comm
        exact b
theorem pv_makeP {cid : Nat} {nk : Nat} (hz : Z.has cid = true) (M : Mk X.K C f) (hC : Z.cls cid = C) (F : FnOk X.prog X.w X.K X.mg X.base CX' k f fd ps (spOf X.K Z c)) (hr : Room (k + 1) X.A) (hg : Gl X x) (hm : X.mg x = some (.ref C)) (hb : KBn X.K fd ps (n + 1) ks g (fun vs zs => pick (shp pl) vs dvs zs)) (hdw : ∀ H0, Reps X.K Z H0 dvs dws) (hx : PassesS CX' X E)
    (ha : PAD X Z E (e :: es) ds) (hkw : PKD X Z E kws dk) (hall : (backToKw pos (keywordEach kws X.env)).all (·.1.isSome) = true := by rfl) (hks : (backToKw pos (keywordEach kws X.env)).filterMap (·.1) = ks := by rfl)
    (hdb : (x == ("__debug__" : Str)) = false := by decide) (he : starEach (e :: es) X.env = (false, eval e X.env) :: starEach es X.env := by rfl)
    (hpl : ((backTo pos (starEach (e :: es) X.env)).any (·.1) || (backToKw pos (keywordEach kws X.env)).any (·.1.isNone)) = false := by rfl) (hnk : ks.length = nk := by rfl) :
    PVD X Z E (.Call (.Name x p) (e :: es) kws pos) (dMakeP c cid pl dws n nk ds dk) := by
  subst hnk
  subst hC
  refine pe_weak (pe_makeV M F hr hg hm hb hx ha hkw hall hks hdb he hpl) fun σ H Q q => ?_
  obtain ⟨H0, F, G, pv, st, k, kx, wd, ss, hd, hk, hx⟩ := q
  refine tA_seq wd ss hx hd fun H1 G1 H1' st1 vs rs e1 wd1 ss1 rr k1 => ?_
  refine tA_seq wd1 ss1 (hx.up e1) k1 fun H2 G2 H2' st2 zs qs e2 wd2 ss2 rz k2 => ?_
  obtain ⟨l1, l2, l3⟩ := okN_of k2.1
  refine ⟨rr.length.trans l1, rz.length.trans l2, ?_⟩
  exact makeP_go hz wd2 ss2 (pick_rr (rr.mono e2) (.ofW (hdw _)) rz pl) l3 k2.2 (fun _ _ _ _ _ _ _ e' => hk _ _ _ _ _ _ _ ((e1.trans e2).trans e')) (hx.up (e1.trans e2))
end
end Y
namespace QE
open PySem PySem.SeqAt
open AutoSeq1 (wpAny_loadPart')
open MeetsSeq MeetsSeq2 MeetsSeq3 SeqRoads2
open GQ (FinOf call_here eqBool_refG)
section
variable {prog : Program} {w : World} {A : Around} {R : Result → Shared → Prop}
theorem index_loopJ (l : Addr) (x : Value) (N : Nat) (e : Nat → Bool) (I : Shared → Prop) (upto : Int) (j : Nat) (hj : j < N) (hup : (j : Int) < upto) (hit : e j = true) (hno : ∀ m, m < j → e m = false)
    (hl : ListX prog w A (fun e s' => R (.error e) s') l x N e (fun i => i ≤ j) I)
    (fin : ∀ s, I s → R (.ok (.ret (.int (j : Nat) s.toks))) { s with toks := s.toks + 1 }) (k : Nat) :
    ∀ i : Nat, j - i = k → i ≤ j → ∀ s, I s →
      wpAny (model prog w) A.in1 (Builtin.«list.index.loop» ⟨[.ref l, x, rawInt i, rawInt upto], []⟩) (FinOf prog w A R) (fun e s' => R (.error e) s') s := by
  induction k with
  | zero =>
    intro i hk hi s h
    obtain ⟨items, n, hl1, hs1, turn⟩ := hl i _ h
    have hij : i = j := by omega
    subst hij
    have hlt : i < items.size := by omega
    have ht := turn (Nat.le_refl _) hlt
    obtain ⟨hp0, g, d, tk, os⟩ := s
    wp_walk using wpAny_loadPart' hl1
    have hi1 : (if (i : Int) < upto then items[((i : Nat) : Int).toNat]? else none) = some items[i] := by simp [hup, hlt]
    rw [hi1]
    refine wpAny_bind (wpAny_mono ht (fun r s2 h2 => ?_) fun _ _ x => x)
    obtain ⟨hr, h2⟩ := h2
    rw [hit] at hr
    subst hr
    have hR := fin s2 h2
    obtain ⟨hp2, g2, d2, tk2, os2⟩ := s2
    wp_walk
    exact hR
  | succ k ih =>
    intro i hk hi s h
    obtain ⟨items, n, hl1, hs1, turn⟩ := hl i _ h
    have hlt : i < items.size := by omega
    have hst : (i : Int) < upto := by omega
    have ht := turn (by omega) hlt
    obtain ⟨hp0, g, d, tk, os⟩ := s
    wp_walk using wpAny_loadPart' hl1
    have hi1 : (if (i : Int) < upto then items[((i : Nat) : Int).toNat]? else none) = some items[i] := by simp [hst, hlt]
    have hc : ((i : Int) + 1) = ((i + 1 : Nat) : Int) := by omega
    rw [hi1]
    refine wpAny_bind (wpAny_mono ht (fun r s2 h2 => ?_) fun _ _ x => x)
    obtain ⟨hr, h2⟩ := h2
    rw [hno i (by omega)] at hr
    subst hr
    have hrec := ih (i + 1) (by omega) (by omega) s2 h2
    obtain ⟨hp2, g2, d2, tk2, os2⟩ := s2
    wp_walk
    rw [hc]
    exact ⟨plainId_quiet plain_index_loop _, codeAny_builtin entry_index_loop (by
      rw [Around.under_plainId plain_index_loop _]
      exact hrec)⟩
theorem list_indexJ (l : Addr) (x : Value) (N : Nat) (e : Nat → Bool) (I : Shared → Prop) (j : Nat) (hj : j < N) (hup : (j : Int) < 2 ^ 63 - 1) (hit : e j = true) (hno : ∀ m, m < j → e m = false)
    (hl : ListX prog w A (fun e s' => R (.error e) s') l x N e (fun i => i ≤ j) I)
    (fin : ∀ s, I s → R (.ok (.ret (.int (j : Nat) s.toks))) { s with toks := s.toks + 1 }) {s : Shared} (h : I s) :
    wpAny (model prog w) A.in1 (Builtin.«list.index» ⟨[.ref l, x], []⟩) (FinOf prog w A R) (fun e s' => R (.error e) s') s := by
  obtain ⟨items, n, hl1, hs1, _⟩ := hl 0 _ h
  have hrec := index_loopJ (A := A) (R := R) l x N e I (2 ^ 63 - 1) j hj hup hit hno hl fin _ 0 rfl (Nat.zero_le _) s h
  obtain ⟨hp, g, d, tk, os⟩ := s
  wp_walk using wpAny_loadPart' hl1
  have a1 : ((fun i : Int => if i < 0 then max 0 (i + (items.size : Int)) else i) ((none : Option Int).getD 0)) = ((0 : Nat) : Int) := by simp
  have a2 : ((fun i : Int => if i < 0 then max 0 (i + (items.size : Int)) else i) ((none : Option Int).getD (2 ^ 63 - 1))) = 2 ^ 63 - 1 := by simp
  rw [a1, a2]
  exact ⟨plainId_quiet plain_index_loop _, codeAny_builtin entry_index_loop (by
    rw [Around.under_plainId plain_index_loop _]
    exact hrec)⟩
end
section
variable {prog : Program} {w : World} {A : Around} {E : Value → Shared → Prop} {s : Shared}
theorem index_list {l : Addr} {x : Value} {N : Nat} {e : Nat → Bool} {Q : Value → Shared → Prop} (I : Shared → Prop) (j : Nat) (hj : j < N) (hup : (j : Int) < 2 ^ 63 - 1) (hit : e j = true) (hno : ∀ m, m < j → e m = false)
    (hl : ListX prog w A E l x N e (fun i => i ≤ j) I) (fin : ∀ s, I s → Q (.int (j : Nat) s.toks) { s with toks := s.toks + 1 }) (h : I s) :
    wpAny (model prog w) A (call (.builtin "list.index") [.ref l, x]) Q E s := by
  obtain ⟨items, n, hl1, _, _⟩ := hl 0 _ h
  exact call_here (Q := Q) F.slot_list_index ⟨_, hl1, rfl⟩ F.entry_list_index (F.args_list_index_2 _ _) (list_indexJ (R := wants Q E) l x N e I j hj hup hit hno hl (fun s' q => fin s' q) h)
end
end QE
namespace Y
open PySem L2
open PySem.Spec PyProof.Rows
open Evl (Ex)
/-! ### xs.index(x) by == -/
def ixW (f : W → Option Bool) : List W → Option Nat
  | [] => none
  | y :: ys => match f y with
    | some true => some 0
    | some false => (ixW f ys).map (· + 1)
    | none => none
theorem ixW_at {f : W → Option Bool} : ∀ (ys : List W) (n : Nat), ixW f ys = some n → n < ys.length ∧ (∀ i y, ys[i]? = some y → i ≤ n → f y = some (itAt f ys i)) ∧ itAt f ys n = true ∧ ∀ m, m < n → itAt f ys m = false
  | [], n, e => by cases e
  | y :: ys, n, e => by
    unfold ixW at e
    have e0 : itAt f (y :: ys) 0 = (f y).getD false := rfl
    cases q : f y with
    | none => rw [q] at e; cases e
    | some b =>
      cases b with
      | true =>
        rw [q] at e
        cases e
        refine ⟨by simp, fun i z h1 h2 => ?_, by rw [e0, q]; rfl, fun m hm => absurd hm (Nat.not_lt_zero _)⟩
        obtain rfl : i = 0 := by omega
        simp at h1
        subst h1
        rw [e0, q]
        rfl
      | false =>
        rw [q] at e
        simp only at e
        obtain ⟨m, h1, rfl⟩ := Option.map_eq_some_iff.mp e
        obtain ⟨a1, a2, a3, a4⟩ := ixW_at ys m h1
        refine ⟨by rw [List.length_cons]; omega, fun i z h2 h3 => ?_, a3, fun k hk => ?_⟩
        · cases i with
          | zero => simp at h2; subst h2; rw [e0, q]; rfl
          | succ i => exact a2 i z (by simpa using h2) (by omega)
        · cases k with
          | zero => rw [e0, q]; rfl
          | succ k => exact a4 k (by omega)
def oIndexX : OM := fun w ws k => match w, ws with
  | .lst ys, [a] => ys.length < 2 ^ 62 ∧ ∃ n : Nat, ixW (fun y => eqW 6 y a) ys = some n ∧ k (.int n)
  | _, _ => False
section
variable {X : Cx} {Z : Zx} {K : PySem.W.Frag} {H0 H : Hp}
def rIdxX (K : PySem.W.Frag) (Z : Zx) : V → List V → Hp → VK → Prop := fun x xs H Q => ∃ ys a v, ∃ n : Nat, xs = [v] ∧ Rep K Z H x (.lst ys) ∧ Rep K Z H v a ∧ ys.length < 2 ^ 62 ∧ ixW (fun y => eqW 6 y a) ys = some n ∧ ∀ H', Ex H H' → Q (.int n) H'
theorem mt_indexX {kq : Nat} {CX' : CXT} {E : XK} (ow : EqOwn X.prog X.w X.K X.mg X.base CX' Z kq) (hp : Passes CX' X E) (hr : Room (kq + 8) X.A) : MtR X "list.index" (rIdxX X.K Z) := by
  intro pins s σ H x xs v us Q I rx rxs h
  obtain ⟨ys, a, y, n, rfl, ra, rb, hlen, e, q⟩ := h
  obtain ⟨u, rfl, ru⟩ := rxs.one
  cases ra with
  | lst hb rs =>
    cases rx
    obtain ⟨h0, h1, h2, h3⟩ := ixW_at _ _ e
    have sb : Sub X (6 + kq + 1 + 1) X.A := ⟨by rw [show 6 + kq + 1 + 1 = kq + 8 by omega]; exact hr, rfl⟩
    have hn62 : n < 2 ^ 62 := Nat.lt_trans h0 hlen
    refine QE.index_list _ n (by rw [rs.length]; exact h0) (by have : (2 : Nat) ^ 62 = 4611686018427387904 := by decide
                                                               omega) h2 h3 (listX (n := 6) (f := fun y => eqW 6 y a) (P := fun i => i ≤ n) (eqG2W ow hp 6) sb hb rs ru rb (fun i y hy hi => h1 i y hy hi)) (fun s' l => ?_) ⟨H, I, Ex.refl _⟩
    obtain ⟨H', I', e'⟩ := l
    exact ⟨.int (n : Nat), H', I'.tok _, ⟨_, rfl⟩, q H' e'⟩
theorem md_indexX : MtD K Z (rIdxX K Z) oIndexX := by
  intro H0 H v w vs ws k Q e rv rvs o f
  unfold oIndexX at o
  split at o
  · rename_i ys a
    obtain ⟨hl, n, h1, h2⟩ := o
    obtain ⟨y, rfl, ry⟩ := rvs.one
    exact ⟨ys, a, y, n, rfl, rv.up e, ry.up e, hl, h1, fun H' e' => f H0 H' _ _ ⟨Ex.refl _, e', e.trans e', fun a o h n => by rw [n] at h; cases h⟩ .int h2⟩
  · exact o.elim
end
end Y
namespace Y
open PySem L2
open PySem.Spec PyProof.Rows
open Evl (Ex)
/-! ### a name's own thing, frozen where it stands -/
def dFzE (d : DE) : DE := fun st k x => d st (fun r st1 => match r with
  | .w w => k (.w w) st1
  | .pk i => match at' st1 i with
    | .lo t => (match t.frz with
      | some w => k (.w w) (put st1 i (.lo (.fz w)))
      | none => False)
    | _ => False) x
section
variable {X : Cx} {Z : Zx} {E : XS} {e : Expr} {da : DE}
theorem set_same {σ : L2.St} {i : Nat} {v : Option V} (h : σ[i]? = some v) : σ.set i v = σ := by
  apply List.ext_getElem?
  intro j
  rw [List.getElem?_set]
  split
  · rename_i q
    subst q
    split
    · exact h.symm
    · rename_i q
      exact absurd (List.getElem?_eq_some_iff.mp h).1 q
  · rfl
theorem pd_fzE (he : PD X Z E e da) : PD X Z E e (dFzE da) := by
  refine pe_weak he fun σ H Q q => ?_
  obtain ⟨H0, F, G, pv, st, k, kx, wd, ss, hd, hk, hx⟩ := q
  refine ⟨H0, F, G, pv, st, _, kx, wd, ss, hd, fun H1 G1 H1' st1 v r e1 wd1 ss1 rr k1 => ?_, hx⟩
  cases rr with
  | w rv => exact hk _ _ _ _ _ _ e1 wd1 ss1 (.w rv) k1
  | pk h =>
    rename_i i
    replace k1 : (match at' st1 i with | .lo t => (match t.frz with | some w => k (.w w) (put st1 i (.lo (.fz w))) | none => False) | _ => False) := k1
    cases q : at' st1 i with
    | un => rw [q] at k1; exact k1.elim
    | mp k t => rw [q] at k1; exact k1.elim
    | fr _ _ _ _ _ _ => rw [q] at k1; exact k1.elim
    | lo t =>
      rw [q] at k1
      cases q1 : t.frz with
      | none => simp only [q1] at k1
      | some w =>
        simp only [q1] at k1
        obtain ⟨v', Gx, Ga, Gb, h1, h2, h3, h4, _⟩ := ss1.lo_at q
        have hv : v' = v := by rw [h] at h1; exact (Option.some.inj (Option.some.inj h1)).symm
        subst hv
        subst h3
        have wd2 : Wd H1 F (Gx ++ (Ga ++ Gb)) H1' := wd1.perm (by rw [← List.append_assoc]; exact List.Perm.append_right _ List.perm_append_comm)
        obtain ⟨H2, e2, wd3, r3⟩ := freeze wd2 h2 q1
        have s4 := h4 H2 v' (.fz w) [] e2 (.fz r3)
        rw [set_same h1, List.append_nil] at s4
        exact hk _ _ _ _ _ _ (e1.trans e2) wd3 s4 (.w r3) k1
end
end Y
/-! zip(a, b, strict=True) of lists and tuples, also of one of each; enumerate(tuple) -/
namespace QZ
open PySem PySem.Spec PyProof.Rows L2
open PySem.Sem (wp)

/-- a list | a tuple -/
inductive SK where
  | l | t
def SK.It (k : SK) (h : Heap) (it l : Addr) (i : Nat) : Prop := match k with
  | .l => h.IsListIter it l i
  | .t => h.IsTupleIter it l i
def SK.Is (k : SK) (h : Heap) (l : Addr) (items : Array Value) : Prop := match k with
  | .l => h.IsList l items
  | .t => h.IsTuple l items
def SK.nm : SK → String
  | .l => "list_iterator"
  | .t => "tuple_iterator"
section
variable {k : SK} {h h' : Heap} {it l c : Addr} {i : Nat} {items : Array Value}
theorem SK.It.extBut (x : k.It h it l i) (e : Heap.ExtBut c h h') (n : it ≠ c) : k.It h' it l i := by
  cases k with
  | l => exact Heap.IsListIter.extBut x e n
  | t => exact Heap.IsTupleIter.extBut x e n
theorem SK.Is.extBut (x : k.Is h l items) (e : Heap.ExtBut c h h') (n : l ≠ c) : k.Is h' l items := by
  cases k with
  | l => exact Heap.IsList.extBut x e n
  | t => exact Heap.IsTuple.extBut x e n
theorem SK.It.at (x : k.It h it l i) (e : ∀ o, h.get? it = some o → h'.get? it = some o) : k.It h' it l i := by
  cases k with
  | l => exact Heap.IsListIter.at x e
  | t => exact Heap.IsTupleIter.at x e
theorem SK.It.obj (x : k.It h it l i) : ∃ o vs, h.get? it = some o ∧ o.data = .fields vs := by
  cases k with
  | l => obtain ⟨o, e, _, d⟩ := x; exact ⟨o, _, e, d⟩
  | t => obtain ⟨o, e, _, d⟩ := x; exact ⟨o, _, e, d⟩
theorem SK.Is.lt (x : k.Is h l items) : l < h.objs.size := by
  cases k with
  | l => obtain ⟨o, e, _⟩ := x; exact Heap.lt_size e
  | t => obtain ⟨o, e, _⟩ := x; exact Heap.lt_size e
theorem SK.Is.push {o : Obj} (x : k.Is h l items) : k.Is (h.push o) l items := by
  cases k with
  | l => exact Heap.IsList.push x _
  | t => exact Heap.IsTuple.push x _
end
section
variable {prog : Program} {w : World} {A : Around} {E : Value → Shared → Prop} {s : Shared}
theorem next_item {k : SK} {it l : Addr} {i : Nat} {items : Array Value} {x : Value} {Q : Value → Shared → Prop} (hit : k.It s.heap it l i) (hl : k.Is s.heap l items) (hx : items[i]? = some x)
    (hQ : ∀ h', k.It h' it l (i + 1) → Heap.SameBut it s.heap h' → Q x { s with heap := h' }) : wpAny (model prog w) A (Builtin.SmallTypes.nextOf (.ref it)) Q E s := by
  cases k with
  | l => exact wpAny_nextOf_list_item hit hl hx hQ
  | t => exact RZ.nextOf_tuple_item hit hl hx hQ
theorem next_end {k : SK} {it l : Addr} {i : Nat} {items : Array Value} {Q : Value → Shared → Prop} (hh : A.handled = none) (hit : k.It s.heap it l i) (hl : k.Is s.heap l items) (hx : items[i]? = none)
    (hE : ∀ h' e, Heap.ExtBut it s.heap h' → (∃ o, h'.get? e = some o ∧ o.cls = .type "StopIteration") → E (.ref e) { s with heap := h' }) : wpAny (model prog w) A (Builtin.SmallTypes.nextOf (.ref it)) Q E s := by
  cases k with
  | l => exact wpAny_nextOf_list_end hh hit hl hx hE
  | t => exact RZ.nextOf_tuple_end hh hit hl hx hE
theorem iter_new {k : SK} {l : Addr} {items : Array Value} {Q : Value → Shared → Prop} (hl : k.Is s.heap l items)
    (hQ : Q (.ref s.heap.objs.size) { s with heap := s.heap.push { cls := .type k.nm, data := .fields #[.ref l, .int 0 0] } }) : wpAny (model prog w) A (pyIter (.ref l)) Q E s := by
  cases k with
  | l => exact wpAny_pyIter_list hl hQ
  | t => exact wpAny_pyIter_tuple hl hQ
theorem orEnd_item {k : SK} {it l : Addr} {i : Nat} {items : Array Value} {x : Value} {Q : Option Value → Shared → Prop} (hit : k.It s.heap it l i) (hl : k.Is s.heap l items) (hx : items[i]? = some x)
    (hQ : ∀ h', k.It h' it l (i + 1) → Heap.SameBut it s.heap h' → Q (some x) { s with heap := h' }) : wpAny (model prog w) A (Builtin.SmallTypes.nextOrEnd (.ref it)) Q E s := by
  unfold Builtin.SmallTypes.nextOrEnd
  exact wpAny_bind (wpAny_attempt (next_item hit hl hx fun h' a b => wpAny_pure (hQ h' a b)))
theorem orEnd_end {k : SK} {it l : Addr} {i : Nat} {items : Array Value} {Q : Option Value → Shared → Prop} (hh : A.handled = none) (hit : k.It s.heap it l i) (hl : k.Is s.heap l items) (hx : items[i]? = none)
    (hQ : ∀ h', Heap.ExtBut it s.heap h' → Q none { s with heap := h' }) : wpAny (model prog w) A (Builtin.SmallTypes.nextOrEnd (.ref it)) Q E s := by
  unfold Builtin.SmallTypes.nextOrEnd
  refine wpAny_bind (wpAny_attempt (next_end hh hit hl hx fun h' e hx' he => ?_))
  obtain ⟨o, ho, hc⟩ := he
  refine wpAny_bind (wpAny_isInstance (T := "StopIteration") (b := true) ⟨o, ho, hc⟩ isSubtype_stop ?_)
  exact wpAny_pure (hQ _ hx')
end

/-! ### the machine's zip that is strict -/
abbrev IsZipS (h : Heap) (z TI TO : Addr) (f0 : Value) : Prop := h.get? z = some { cls := .type "zip", dict := none, data := .fields #[f0, .bool false, .bool true, .ref TI, .ref TO], slots := #[] }
section
variable {prog : Program} {w : World} {A : Around} {E : Value → Shared → Prop} {s : Shared} {ka kb : SK}
theorem zipS_next_item {z TI TO i1 i2 l1 l2 : Addr} {k1 k2 : Nat} {xs ys : Array Value} {x y a b : Value} {Q : Value → Shared → Prop} (D : ZipApart z TI TO i1 i2 l1 l2)
    (hz : IsZipS s.heap z TI TO .none) (hTI : IsPair s.heap TI (.ref i1) (.ref i2)) (hTO : IsPair s.heap TO a b)
    (h1 : ka.It s.heap i1 l1 k1) (h2 : kb.It s.heap i2 l2 k2) (hl1 : ka.Is s.heap l1 xs) (hl2 : kb.Is s.heap l2 ys) (hx : xs[k1]? = some x) (hy : ys[k2]? = some y)
    (hQ : ∀ h', IsZipS h' z TI TO (rawInt s.heap.objs.size) → IsPair h' TO x y → ka.It h' i1 l1 (k1 + 1) → kb.It h' i2 l2 (k2 + 1) → IsPair h' s.heap.objs.size x y → h'.objs.size = s.heap.objs.size + 1 →
      (∀ c o, c ≠ z → c ≠ TO → c ≠ i1 → c ≠ i2 → s.heap.get? c = some o → h'.get? c = some o) → Q (.ref s.heap.objs.size) { s with heap := h' }) :
    wpAny (model prog w) A (Builtin.«zip.__next__» ⟨[.ref z], []⟩) (fun fin s' => ∃ v, fin = .done (.ret v) ∧ Q v s') E s := by
  show wpAny _ _ (field (.ref z) 2 >>= _) _ _ _
  refine wpAny_bind (wpAny_field hz rfl (x := .bool true) rfl ?_)
  show wpAny _ _ (field (.ref z) 3 >>= _) _ _ _
  refine wpAny_bind (wpAny_field hz rfl (x := .ref TI) rfl ?_)
  refine wpAny_bind (wpAny_seqItems hTI rfl ?_)
  show wpAny _ _ (Builtin.SmallTypes.ownedTupleIsFree (.ref z) >>= _) _ _ _
  refine wpAny_bind ?_
  unfold Builtin.SmallTypes.ownedTupleIsFree
  refine wpAny_bind (wpAny_field hz rfl (x := .none) rfl (wpAny_pure ?_))
  simp only [if_true]
  refine wpAny_bind (wpAny_rule ?_)
  refine wpAny_bind (wpAny_field hz rfl (x := .ref TO) rfl ?_)
  refine wpAny_bind (wpAny_setField_rec hz (by simp) fun h₁ hz₁ hs₁ => ?_)
  replace hz₁ : IsZipS h₁ z TI TO .ellipsis := hz₁
  refine wpAny_bind ?_
  simp only [List.zipIdx_cons, List.zipIdx_nil, List.forIn_cons, List.forIn_nil]

  refine wpAny_bind (wpAny_bind (wpAny_onRaise ?_))
  show wpAny _ _ (Builtin.SmallTypes.nextOrEnd (.ref i1)) _ _ _
  refine orEnd_item (h1.extBut hs₁.extBut D.i1z) (hl1.extBut hs₁.extBut D.l1z) hx fun h₂ h1₂ hs₂ => ?_
  have hTO₂ : IsPair h₂ TO a b := hs₂.extBut _ _ D.TOi1 (hs₁.extBut _ _ D.TOz hTO)
  refine wpAny_bind (wpAny_seqItems hTO₂ rfl ?_)
  refine wpAny_bind (wpAny_updateSeq_pair hTO₂ fun h₃ hTO₃ hs₃ => ?_)
  replace hTO₃ : IsPair h₃ TO x b := hTO₃
  refine wpAny_bind (wpAny_letGo (wpAny_pure ?_))

  refine wpAny_bind (wpAny_bind (wpAny_onRaise ?_))
  show wpAny _ _ (Builtin.SmallTypes.nextOrEnd (.ref i2)) _ _ _
  refine orEnd_item (((h2.extBut hs₁.extBut D.i2z).extBut hs₂.extBut D.i12.symm).extBut hs₃.extBut D.TOi2.symm)
    (((hl2.extBut hs₁.extBut D.l2z).extBut hs₂.extBut D.l2i1).extBut hs₃.extBut D.l2TO) hy fun h₄ h2₄ hs₄ => ?_
  have hTO₄ : IsPair h₄ TO x b := hs₄.extBut _ _ D.TOi2 hTO₃
  refine wpAny_bind (wpAny_seqItems hTO₄ rfl ?_)
  refine wpAny_bind (wpAny_updateSeq_pair hTO₄ fun h₅ hTO₅ hs₅ => ?_)
  replace hTO₅ : IsPair h₅ TO x y := hTO₅
  refine wpAny_bind (wpAny_letGo (wpAny_pure (wpAny_pure ?_)))

  refine wpAny_bind (wpAny_seqItems hTO₅ rfl ?_)
  refine wpAny_bind (wpAny_newTuple ?_)
  have hsz : h₅.objs.size = s.heap.objs.size := by rw [hs₅.1, hs₄.1, hs₃.1, hs₂.1, hs₁.1]
  have hz₅ : IsZipS h₅ z TI TO .ellipsis := hs₅.extBut _ _ D.TOz.symm (hs₄.extBut _ _ D.i2z.symm (hs₃.extBut _ _ D.TOz.symm (hs₂.extBut _ _ D.i1z.symm hz₁)))
  have hk₅ : ∀ c o, c ≠ z → c ≠ TO → c ≠ i1 → c ≠ i2 → s.heap.get? c = some o → h₅.get? c = some o := fun c o c1 c2 c3 c4 e =>
    hs₅.extBut _ _ c2 (hs₄.extBut _ _ c4 (hs₃.extBut _ _ c2 (hs₂.extBut _ _ c3 (hs₁.extBut _ _ c1 e))))
  have h1₅ : ka.It h₅ i1 l1 (k1 + 1) := ((h1₂.extBut hs₃.extBut D.TOi1.symm).extBut hs₄.extBut D.i12).extBut hs₅.extBut D.TOi1.symm
  have h2₅ : kb.It h₅ i2 l2 (k2 + 1) := h2₄.extBut hs₅.extBut D.TOi2.symm
  have hzlt : z < h₅.objs.size := Heap.lt_size hz₅
  show wpAny _ _ (Builtin.SmallTypes.ownedTupleHandOut (.ref z) (.ref h₅.objs.size) >>= _) _ _ _
  refine wpAny_bind ?_
  unfold Builtin.SmallTypes.ownedTupleHandOut
  have hz₆ : IsZipS (h₅.push { cls := .type "tuple", data := .seq #[x, y] }) z TI TO .ellipsis := Heap.get?_push_of_some _ hz₅
  refine wpAny_bind (wpAny_setField_rec hz₆ (by simp) fun h₇ hz₇ hs₇ => ?_)
  replace hz₇ : IsZipS h₇ z TI TO (rawInt h₅.objs.size) := hz₇
  refine wpAny_setField_rec hz₇ (by simp) fun h₈ hz₈ hs₈ => ?_
  replace hz₈ : IsZipS h₈ z TI TO (rawInt h₅.objs.size) := hz₈
  have up : ∀ c o, c ≠ z → h₅.get? c = some o → h₈.get? c = some o := fun c o c1 e => hs₈.extBut _ _ c1 (hs₇.extBut _ _ c1 (Heap.get?_push_of_some _ e))
  have hT₈ : IsPair h₈ h₅.objs.size x y := hs₈.extBut _ _ (Nat.ne_of_gt hzlt) (hs₇.extBut _ _ (Nat.ne_of_gt hzlt) (Heap.get?_push_size _ rfl))
  have hz8 : h₈.objs.size = h₅.objs.size + 1 := by rw [hs₈.1, hs₇.1, Heap.size_push]
  rw [hsz] at hz₈ hT₈ hz8
  refine wpAny_pure ⟨_, rfl, ?_⟩
  show Q (.ref h₅.objs.size) _
  rw [hsz]
  exact hQ h₈ hz₈ (up _ _ D.TOz hTO₅) (h1₅.at fun o e => up _ o D.i1z e) (h2₅.at fun o e => up _ o D.i2z e) hT₈ hz8 fun c o c1 c2 c3 c4 e => up c o c1 (hk₅ c o c1 c2 c3 c4 e)

theorem zipS_next_end {z TI TO i1 i2 l1 l2 : Addr} {k1 k2 : Nat} {xs ys : Array Value} {a b : Value} {Q : PySem.Fin → Shared → Prop} (hh : A.handled = none) (D : ZipApart z TI TO i1 i2 l1 l2)
    (hz : IsZipS s.heap z TI TO .none) (hTI : IsPair s.heap TI (.ref i1) (.ref i2)) (hTO : IsPair s.heap TO a b)
    (h1 : ka.It s.heap i1 l1 k1) (h2 : kb.It s.heap i2 l2 k2) (hl1 : ka.Is s.heap l1 xs) (hl2 : kb.Is s.heap l2 ys) (hx : xs[k1]? = none) (hy : ys[k2]? = none)
    (hE : ∀ h' e, (∀ c o, c ≠ z → c ≠ TO → c ≠ i1 → c ≠ i2 → s.heap.get? c = some o → h'.get? c = some o) → (∃ o, h'.get? e = some o ∧ o.cls = .type "StopIteration") → E (.ref e) { s with heap := h' }) :
    wpAny (model prog w) A (Builtin.«zip.__next__» ⟨[.ref z], []⟩) Q E s := by
  show wpAny _ _ (field (.ref z) 2 >>= _) _ _ _
  refine wpAny_bind (wpAny_field hz rfl (x := .bool true) rfl ?_)
  show wpAny _ _ (field (.ref z) 3 >>= _) _ _ _
  refine wpAny_bind (wpAny_field hz rfl (x := .ref TI) rfl ?_)
  refine wpAny_bind (wpAny_seqItems hTI rfl ?_)
  show wpAny _ _ (Builtin.SmallTypes.ownedTupleIsFree (.ref z) >>= _) _ _ _
  refine wpAny_bind ?_
  unfold Builtin.SmallTypes.ownedTupleIsFree
  refine wpAny_bind (wpAny_field hz rfl (x := .none) rfl (wpAny_pure ?_))
  simp only [if_true]
  refine wpAny_bind (wpAny_rule ?_)
  refine wpAny_bind (wpAny_field hz rfl (x := .ref TO) rfl ?_)
  refine wpAny_bind (wpAny_setField_rec hz (by simp) fun h₁ hz₁ hs₁ => ?_)
  replace hz₁ : IsZipS h₁ z TI TO .ellipsis := hz₁
  refine wpAny_bind ?_
  simp only [List.zipIdx_cons, List.zipIdx_nil, List.forIn_cons, List.forIn_nil]
  refine wpAny_bind (wpAny_bind (wpAny_onRaise ?_))
  show wpAny _ _ (Builtin.SmallTypes.nextOrEnd (.ref i1)) _ _ _
  refine orEnd_end hh (h1.extBut hs₁.extBut D.i1z) (hl1.extBut hs₁.extBut D.l1z) hx fun h₂ hs₂ => ?_
  have hz₂ : IsZipS h₂ z TI TO .ellipsis := hs₂ _ _ D.i1z.symm hz₁
  refine wpAny_bind (wpAny_setField_rec hz₂ (by simp) fun h₃ hz₃ hs₃ => ?_)
  refine wpAny_bind (wpAny_bind ?_)
  show wpAny _ _ (forIn [(Value.ref i2, 1)] PUnit.unit _) _ _ _
  simp only [List.forIn_cons, List.forIn_nil]
  refine wpAny_bind (wpAny_bind ?_)
  refine orEnd_end hh (((h2.extBut hs₁.extBut D.i2z).extBut hs₂ D.i12.symm).extBut hs₃.extBut D.i2z)
    (((hl2.extBut hs₁.extBut D.l2z).extBut hs₂ D.l2i1).extBut hs₃.extBut D.l2z) hy fun h₄ hs₄ => ?_
  refine wpAny_pure (wpAny_pure ?_)
  refine wpAny_bind (wpAny_rule ?_)
  show wpAny _ _ (newExc (.type "StopIteration") [] >>= _) _ _ _
  refine wpAny_bind ?_
  simp only [newExc, newTuple]
  refine wpAny_bind (wpAny_newObj_type ?_ (by size_fits))
  refine wpAny_bind (m := firstArgMember _ _) (wpAny_of_eq (a := Value.none) (by first | rfl | (simp only [firstArgMember]; rfl)) ?_)
  refine wpAny_newObj_type ?_ (by size_fits)
  simp only [raiseNew]
  refine wpAny_bind (wpAny_handled ?_)
  first | rw [show A.in1.handled = none from hh] | rw [hh]
  refine wpAny_bind (wpAny_pure (wpAny_throw ?_))
  refine hE _ _ (fun c o c1 c2 c3 c4 x => ?_) ⟨_, Heap.get?_push_size _ rfl, rfl⟩
  exact Heap.get?_push_of_some _ (Heap.get?_push_of_some _ (hs₄ _ _ c4 (hs₃.extBut _ _ c1 (hs₂ _ _ c3 (hs₁.extBut _ _ c1 x)))))
theorem pyNext_zipS_item {z TI TO i1 i2 l1 l2 : Addr} {k1 k2 : Nat} {xs ys : Array Value} {x y a b : Value} {Q : Option Value → Shared → Prop} (D : ZipApart z TI TO i1 i2 l1 l2)
    (hz : IsZipS s.heap z TI TO .none) (hTI : IsPair s.heap TI (.ref i1) (.ref i2)) (hTO : IsPair s.heap TO a b)
    (h1 : ka.It s.heap i1 l1 k1) (h2 : kb.It s.heap i2 l2 k2) (hl1 : ka.Is s.heap l1 xs) (hl2 : kb.Is s.heap l2 ys) (hx : xs[k1]? = some x) (hy : ys[k2]? = some y)
    (hQ : ∀ h', IsZipS h' z TI TO (rawInt s.heap.objs.size) → IsPair h' TO x y → ka.It h' i1 l1 (k1 + 1) → kb.It h' i2 l2 (k2 + 1) → IsPair h' s.heap.objs.size x y → h'.objs.size = s.heap.objs.size + 1 →
      (∀ c o, c ≠ z → c ≠ TO → c ≠ i1 → c ≠ i2 → s.heap.get? c = some o → h'.get? c = some o) → Q (some (.ref s.heap.objs.size)) { s with heap := h' }) :
    wpAny (model prog w) A (pyNext (.ref z)) Q E s := by
  have hT : s.TypeIs (.ref z) "zip" := ⟨_, hz, rfl⟩
  unfold pyNext
  exact wpAny_bind (wpAny_attempt (wpAny_callSpecial?_slot (name := Str.ofString "__next__") hT F.slot_zip_next
    (wpAny_call_entry F.slot_zip_next hT F.entry_zip_next
      (zipS_next_item D hz hTI hTO h1 h2 hl1 hl2 hx hy fun h' a1 a2 a3 a4 a5 a6 a7 => wpAny_pure (hQ h' a1 a2 a3 a4 a5 a6 a7)) (F.args_zip_next_1 _))))
theorem pyNext_zipS_end {z TI TO i1 i2 l1 l2 : Addr} {k1 k2 : Nat} {xs ys : Array Value} {a b : Value} {Q : Option Value → Shared → Prop} (hh : A.handled = none) (D : ZipApart z TI TO i1 i2 l1 l2)
    (hz : IsZipS s.heap z TI TO .none) (hTI : IsPair s.heap TI (.ref i1) (.ref i2)) (hTO : IsPair s.heap TO a b)
    (h1 : ka.It s.heap i1 l1 k1) (h2 : kb.It s.heap i2 l2 k2) (hl1 : ka.Is s.heap l1 xs) (hl2 : kb.Is s.heap l2 ys) (hx : xs[k1]? = none) (hy : ys[k2]? = none)
    (hQ : ∀ h', (∀ c o, c ≠ z → c ≠ TO → c ≠ i1 → c ≠ i2 → s.heap.get? c = some o → h'.get? c = some o) → Q none { s with heap := h' }) : wpAny (model prog w) A (pyNext (.ref z)) Q E s := by
  have hT : s.TypeIs (.ref z) "zip" := ⟨_, hz, rfl⟩
  unfold pyNext
  refine wpAny_bind (wpAny_attempt (wpAny_callSpecial?_slot (name := Str.ofString "__next__") hT F.slot_zip_next
    (wpAny_call_entry F.slot_zip_next hT F.entry_zip_next (zipS_next_end hh D hz hTI hTO h1 h2 hl1 hl2 hx hy fun h' e hk he => ?_) (F.args_zip_next_1 _))))
  obtain ⟨o, ho, hc⟩ := he
  refine wpAny_bind (wpAny_isInstance (T := "StopIteration") (b := true) ⟨o, ho, hc⟩ isSubtype_stop ?_)
  exact wpAny_pure (hQ _ hk)
theorem go_zipS {elts : List Expr} {x1} {pos : Pos} {z TI TO T : Addr} {Q : Unit → Shared → Prop} (hz : IsZipS s.heap z TI TO (rawInt T))
    (hQ : ∀ h', IsZipS h' z TI TO .none → Heap.SameBut z s.heap h' → Q () { s with heap := h' }) :
    wpAny (model prog w) A (letOwnedTupleGo (.Tuple elts x1 pos) (.ref z) (.ref T)) Q E s := by
  unfold letOwnedTupleGo
  refine wpAny_bind (wpAny_load hz ?_)
  show wpAny _ _ (if (["enumerate", "zip", "dict_itemiterator", "dict_reverseitemiterator", "odict_iterator", "itertools.zip_longest", "itertools.pairwise"].contains "zip" &&
      (#[rawInt T, .bool false, .bool true, .ref TI, .ref TO] : Array Value)[0]? == some (rawInt T)) = true then _ else _) Q E s
  rw [if_pos (by simp)]
  refine wpAny_bind (wpAny_rule ?_)
  show wpAny _ _ (setField (.ref z) 0 .none) Q E s
  exact wpAny_setField_rec hz (by simp) fun h' hz' hs' => hQ h' hz' hs'
theorem iter_zipS {z TI TO : Addr} {f0 : Value} {Q : Value → Shared → Prop} (hz : IsZipS s.heap z TI TO f0) (h : Q (.ref z) s) : wpAny (model prog w) A (pyIter (.ref z)) Q E s := by
  have hT : s.TypeIs (.ref z) "zip" := ⟨_, hz, rfl⟩
  refine wpAny_pyIter_slot hT F.slot_zip_iter (wpAny_call_entry F.slot_zip_iter hT F.entry_zip_iter ?_ (F.args_zip_iter_1 _))
  show wpAny _ _ (ret (.ref z)) _ _ s
  exact wpAny_pure ⟨_, rfl, "zip", _, hT, F.slot_zip_next.lookup, h⟩
end

/-! ### zip(.., strict=True) made -/
abbrev skw : List (Str × Value) := [(Str.ofString "strict", .bool true)]
section
variable {prog : Program} {w : World} {A : Around} {E : Value → Shared → Prop} {s : Shared}
theorem callType_kw {T newId : String} {Bn : Builtin} {args : List Value} {kw : List (Str × Value)} {S : PySem.Spec} {Q : Value → Shared → Prop} (ft : TypeCalled T newId "object.__init__")
    (hct : checkTypeCall T ⟨args, kw⟩ = pure ()) (hcn : checkBuiltinCall newId ⟨.type T :: args, kw⟩ = pure ())
    (entryN : entryFor table newId = some Bn) (g : PySem.Meets (Bn ⟨.type T :: args, kw⟩) S) (hok : ∀ obj, argsOk "object.__init__" ⟨obj :: args, kw⟩)
    (hi : ∀ obj, PySem.Meets (Builtin.«object.__init__» ⟨obj :: args, kw⟩) (fun _ R s => s.TypeIs obj T ∧ R (.ok (.ret .none)) s))
    (h : S A.in1 (wants (fun obj s₁ => s₁.TypeIs obj T ∧ Q obj s₁) E) s) :
    wpAny (model prog w) A (call (.type T) args kw) Q E s := by
  obtain ⟨c, tl, hmro⟩ := ft.mro
  have hmade := ft.made
  have hsub := ft.sub
  refine wpAny_call (codeAny_of_tree ?_)
  show wpAny _ _ (callAny (.type T) _) _ _ _
  refine wpAny_pure ⟨Code.quiet_builtin _ (by decide +kernel), codeAny_builtin F.entry_type_call ?_⟩
  rw [Around.under_plain (weight_type_call_type T args kw) (units_type_call_type T args kw)]
  have h1 := ft.notType
  have h2 := ft.canCreate
  repeat (any_goals (first | assumption | wp_step))

  refine codeAny_mono (codeAny_call_builtin ft.plain entryN (wpAny_of_eq hcn (g prog w A.in1 _ s h))) fun r s₁ hr => ?_
  cases r with
  | error e => exact hr
  | ok fl =>
    cases fl with
    | ret obj =>
      obtain ⟨hT, hq⟩ := hr
      have hli := ft.init.lookup
      have hbi := ft.init.bind obj
      repeat (any_goals (first | assumption | wp_step))

      refine codeAny_mono (codeAny_call_builtin ft.init.plain F.entry_object_init (ft.init.check _ _ _ _ _ _ _ _ hT (hok obj) (hi obj prog w A.in1 (wants (fun r s₂ => r = .none ∧ Q obj s₂) E) s₁ ⟨hT, rfl, hq⟩))) fun r₂ s₂ hr₂ => ?_
      cases r₂ with
      | error e => exact hr₂
      | ok fl₂ =>
        cases fl₂ with
        | ret r =>
          obtain ⟨rfl, hq⟩ := hr₂
          repeat (any_goals (first | assumption | wp_step))
        | _ => exact hr₂.elim
    | _ => exact hr.elim
end
theorem typeCall_zipS (a b : Value) : checkTypeCall "zip" ⟨[a, b], skw⟩ = pure () := by kernel_rfl
theorem newCall_zipS (a b : Value) : checkBuiltinCall "zip.__new__" ⟨[.type "zip", a, b], skw⟩ = pure () := by kernel_rfl
theorem args_init_zipS (a b c : Value) : argsOk "object.__init__" ⟨[a, b, c], skw⟩ := by
  unfold argsOk; rw [signature?_of (id := "object.__init__") (n := ['_', '_', 't', 'i', 'n', 'i', '_', '_']) (o := ['t', 'c', 'e', 'j', 'b', 'o']) (by kernel_rfl) F.owner_object]; kernel_rfl
theorem init_zipS (self a b : Value) : PySem.Meets (Builtin.«object.__init__» ⟨[self, a, b], skw⟩) (fun _ R s => s.TypeIs self "zip" ∧ R (.ok (.ret .none)) s) := by
  have hl := F.called_zip.init.lookup
  have hm := F.called_zip.made
  refine Meets.of_wp fun prog w A R s hs => ?_
  obtain ⟨hT, hq⟩ := hs
  have hne : (some "zip.__new__" != some "object.__new__") = true := by decide
  repeat (any_goals (first | assumption | wp_step))
  exact ⟨_, rfl, hq⟩
end QZ
namespace QZ
open PySem PySem.Spec PyProof.Rows L2
open PySem.Sem (wp)
abbrev sH1 (ka : SK) (h : Heap) (l1 : Addr) : Heap := h.push { cls := .type ka.nm, data := .fields #[.ref l1, .int 0 0] }
abbrev sH2 (ka kb : SK) (h : Heap) (l1 l2 : Addr) : Heap := (sH1 ka h l1).push { cls := .type kb.nm, data := .fields #[.ref l2, .int 0 0] }
abbrev sH3 (ka kb : SK) (h : Heap) (l1 l2 : Addr) : Heap := (sH2 ka kb h l1 l2).push { cls := .type "tuple", data := .seq #[.ref h.objs.size, .ref (sH1 ka h l1).objs.size] }
abbrev sH4 (ka kb : SK) (h : Heap) (l1 l2 : Addr) : Heap := (sH3 ka kb h l1 l2).push { cls := .type "tuple", data := .seq #[.none, .none] }
abbrev sH5 (ka kb : SK) (h : Heap) (l1 l2 : Addr) : Heap := (sH4 ka kb h l1 l2).push { cls := .type "zip", data := .fields #[.none, .bool false, .bool true, .ref (sH2 ka kb h l1 l2).objs.size, .ref (sH3 ka kb h l1 l2).objs.size] }
theorem truthy_true {prog : Program} {w : World} {A : Around} {E : Value → Shared → Prop} {s : Shared} {Q : Bool → Shared → Prop} (h : Q true s) : wpAny (model prog w) A (truthy (.bool true)) Q E s := by
  unfold truthy
  exact wpAny_pure h
theorem meets_zipS_new (ka kb : SK) (l1 l2 : Addr) (xs ys : Array Value) :
    PySem.Meets (Builtin.«zip.__new__» ⟨[.type "zip", .ref l1, .ref l2], skw⟩) (fun _ R s => ka.Is s.heap l1 xs ∧ kb.Is s.heap l2 ys ∧
      R (.ok (.ret (.ref (sH4 ka kb s.heap l1 l2).objs.size))) { s with heap := sH5 ka kb s.heap l1 l2 }) :=
  .of_wp fun prog w A R s h => by
    obtain ⟨hp, g, d, tk, os⟩ := s; obtain ⟨hl1, hl2, h⟩ := h
    have hsub := sub_zip
    have hL1 : ka.Is (Shared.heap ⟨hp, g, d, tk, os⟩) l1 xs := hl1
    have hL2 : kb.Is (Shared.heap ⟨hp.push { cls := .type ka.nm, data := .fields #[.ref l1, .int 0 0] }, g, d, tk, os⟩) l2 ys := SK.Is.push hl2
    wp_walk using truthy_true, iter_new hL1, iter_new hL2
    exact ⟨_, rfl, h⟩
section
variable {prog : Program} {w : World} {A : Around} {E : Value → Shared → Prop} {s : Shared} {ka kb : SK}
theorem IsItNew {k : SK} {h : Heap} {l : Addr} : k.It (h.push { cls := .type k.nm, data := .fields #[.ref l, .int 0 0] }) h.objs.size l 0 := by
  cases k with
  | l => exact ⟨_, Heap.get?_push_size _ rfl, rfl, rfl⟩
  | t => exact ⟨_, Heap.get?_push_size _ rfl, rfl, rfl⟩
theorem call_zipS {l1 l2 : Addr} {xs ys : Array Value} {Q : Value → Shared → Prop} (hl1 : ka.Is s.heap l1 xs) (hl2 : kb.Is s.heap l2 ys)
    (h : ∀ h', IsZipS h' (s.heap.objs.size + 4) (s.heap.objs.size + 2) (s.heap.objs.size + 3) .none → IsPair h' (s.heap.objs.size + 2) (.ref s.heap.objs.size) (.ref (s.heap.objs.size + 1)) →
      IsPair h' (s.heap.objs.size + 3) .none .none → ka.It h' s.heap.objs.size l1 0 → kb.It h' (s.heap.objs.size + 1) l2 0 → h'.objs.size = s.heap.objs.size + 5 →
      (∀ c o, s.heap.get? c = some o → h'.get? c = some o) → Q (.ref (s.heap.objs.size + 4)) { s with heap := h' }) :
    wpAny (model prog w) A (call (.type "zip") [.ref l1, .ref l2] skw) Q E s := by
  refine callType_kw F.called_zip (typeCall_zipS _ _) (newCall_zipS _ _) F.entry_zip_new (meets_zipS_new ka kb l1 l2 xs ys) (fun obj => args_init_zipS obj _ _) (fun obj => init_zipS obj _ _) ⟨hl1, hl2, ?_⟩
  have z1 : (sH1 ka s.heap l1).objs.size = s.heap.objs.size + 1 := Heap.size_push ..
  have z2 : (sH2 ka kb s.heap l1 l2).objs.size = s.heap.objs.size + 2 := by rw [Heap.size_push, z1]
  have z3 : (sH3 ka kb s.heap l1 l2).objs.size = s.heap.objs.size + 3 := by rw [Heap.size_push, z2]
  have z4 : (sH4 ka kb s.heap l1 l2).objs.size = s.heap.objs.size + 4 := by rw [Heap.size_push, z3]
  have z5 : (sH5 ka kb s.heap l1 l2).objs.size = s.heap.objs.size + 5 := by rw [Heap.size_push, z4]
  have g5 : (sH5 ka kb s.heap l1 l2).get? (sH4 ka kb s.heap l1 l2).objs.size = some _ := Heap.get?_push_size _ rfl
  have g4 : (sH5 ka kb s.heap l1 l2).get? (sH3 ka kb s.heap l1 l2).objs.size = some _ := Heap.get?_push_of_some _ (Heap.get?_push_size _ rfl)
  have g3 : (sH5 ka kb s.heap l1 l2).get? (sH2 ka kb s.heap l1 l2).objs.size = some _ := Heap.get?_push_of_some _ (Heap.get?_push_of_some _ (Heap.get?_push_size _ rfl))
  have g2 : kb.It (sH5 ka kb s.heap l1 l2) (sH1 ka s.heap l1).objs.size l2 0 := IsItNew.at fun o e => Heap.get?_push_of_some _ (Heap.get?_push_of_some _ (Heap.get?_push_of_some _ e))
  have g1 : ka.It (sH5 ka kb s.heap l1 l2) s.heap.objs.size l1 0 := IsItNew.at fun o e => Heap.get?_push_of_some _ (Heap.get?_push_of_some _ (Heap.get?_push_of_some _ (Heap.get?_push_of_some _ e)))
  show _ ∧ _
  rw [z2, z3, z4] at g5
  rw [z1, z2] at g3
  rw [z3] at g4
  rw [z1] at g2
  rw [z4]
  exact ⟨⟨_, g5, rfl⟩, h _ g5 g3 g4 g1 g2 z5 fun c o x =>
    Heap.get?_push_of_some _ (Heap.get?_push_of_some _ (Heap.get?_push_of_some _ (Heap.get?_push_of_some _ (Heap.get?_push_of_some _ x))))⟩
end

/-! ### the walk -/
def SK.Sq (k : SK) (K : PySem.W.Frag) (H : Hp) (a : Addr) (xs : List V) : Prop := match k with
  | .l => SqL K H a xs
  | .t => SqT K H a xs
section
variable {X : Cx} {pins : List (Addr × Obj)} {σ : L2.St} {H : Hp} {s : Shared} {k : SK} {a : Addr} {xs ys : List V}
theorem SK.Sq.is (I : Inv X pins σ H s) (h : k.Sq X.K H a xs) : ∃ its, Vals xs its ∧ k.Is s.heap a its.toArray := by
  cases k with
  | l => obtain ⟨its, rv, p, _⟩ := I.list h; exact ⟨its, rv, p.isList⟩
  | t => obtain ⟨its, rv, p, _⟩ := I.tuple h; exact ⟨its, rv, p⟩
theorem SK.Sq.inj (I : Inv X pins σ H s) (h : k.Sq X.K H a xs) (h' : k.Sq X.K H a ys) : xs = ys := by
  cases k with
  | l => exact I.list_inj h h'
  | t => exact I.tuple_inj h h'
end
/-- the sequences at a and b as they stand at each turn, of one length, the items in new pairs -/
def ItzS (ka kb : SK) (K : PySem.W.Frag) (a b : Addr) : It :=
  ⟨fun i H => ∃ (xs ys : List V) (x y : V), ka.Sq K H a xs ∧ kb.Sq K H b ys ∧ xs[i]? = some x ∧ ys[i]? = some y,
    fun i H v H' => ∃ T x y, v = .ref T ∧ H T = none ∧ H' = upd H T (.tup [x, y]) ∧ (∀ xs, ka.Sq K H a xs → xs[i]? = some x) ∧ ∀ ys, kb.Sq K H b ys → ys[i]? = some y,
    fun i H => ∃ xs ys : List V, ka.Sq K H a xs ∧ kb.Sq K H b ys ∧ xs.length ≤ i ∧ ys.length ≤ i⟩
theorem turn_zipS {ka kb : SK} {P : Program} {w : World} {K : PySem.W.Frag} {elts : List Expr} {kk : Nat} {tpos : Pos} {a b z TI TO i1 i2 : Addr} (D : ZipApart z TI TO i1 i2 a b) :
    Turn P w K (.Tuple elts kk tpos) (ItzS ka kb K a b) [z, TI, TO, i1, i2] z (fun i h => IsZipS h z TI TO .none ∧ IsPair h TI (.ref i1) (.ref i2) ∧ (∃ x y, IsPair h TO x y) ∧ ka.It h i1 a i ∧ kb.It h i2 b i) where
  mem := by simp
  obj := fun i h st c hc => by
    obtain ⟨hz, hTI, ⟨x, y, hTO⟩, x1, x2⟩ := st
    obtain ⟨o1, v1, e1, d1⟩ := x1.obj
    obtain ⟨o2, v2, e2, d2⟩ := x2.obj
    have e' : c = z ∨ c = TI ∨ c = TO ∨ c = i1 ∨ c = i2 := by simpa using hc
    rcases e' with q | q | q | q | q
    · rw [q]; exact ⟨_, hz, fun v q => nomatch q⟩
    · rw [q]; exact ⟨_, hTI, fun v q => nomatch q⟩
    · rw [q]; exact ⟨_, hTO, fun v q => nomatch q⟩
    · rw [q]; exact ⟨o1, e1, fun v q => by rw [d1] at q; cases q⟩
    · rw [q]; exact ⟨o2, e2, fun v q => by rw [d2] at q; cases q⟩
  keep := fun i h h' st k => by
    obtain ⟨hz, hTI, ⟨x, y, hTO⟩, h1, h2⟩ := st
    exact ⟨k z (by simp) _ hz, k TI (by simp) _ hTI, ⟨x, y, k TO (by simp) _ hTO⟩, h1.at fun o q => k i1 (by simp) o q, h2.at fun o q => k i2 (by simp) o q⟩
  item := by
    intro X hP hw hK hc i pins s σ H E I hf st hg
    subst hP hw hK
    obtain ⟨hz, hTI, ⟨x0, y0, hTO⟩, h1, h2⟩ := st
    obtain ⟨xs, ys, x, y, hqx, hqy, hx, hy⟩ := hg
    obtain ⟨its, rv, p⟩ := hqx.is I
    obtain ⟨its2, rv2, p2⟩ := hqy.is I
    obtain ⟨u, hu, ru⟩ := rv.get hx
    obtain ⟨u2, hu2, ru2⟩ := rv2.get hy
    have hzl : z < s.heap.objs.size := Heap.lt_size hz
    refine pyNext_zipS_item D hz hTI hTO h1 h2 p p2 (x := u) (y := u2) (by simpa using hu) (by simpa using hu2) fun h' z' TO' h1' h2' hT hsz hk => ?_
    refine ⟨_, rfl, go_zipS (s := { s with heap := h' }) z' fun h'' z'' sb => ?_⟩
    have hT2 : h''.get? s.heap.objs.size = some { cls := .type "tuple", data := .seq #[u, u2] } := (sb.2 _ (Nat.ne_of_gt hzl)).trans hT
    have new : ObjOk X.prog X.w (upd H s.heap.objs.size (.tup [x, y])) h'' s.heap.objs.size (.tup [x, y]) :=
      ⟨by show 2 ≤ sizeLine; decide, [u, u2], .cons ru (.cons ru2 .nil), ⟨_, hT2, rfl, _, rfl⟩⟩
    have I1 : Inv X pins σ (upd H s.heap.objs.size (.tup [x, y])) { s with heap := h'' } :=
      I.turnedNew (t' := s.toks) (ch := [z, TI, TO, i1, i2]) (fun c o hb q => (sb.2 c (fun q' => hb (by simp [q']))).trans (hk c o (fun q' => hb (by simp [q'])) (fun q' => hb (by simp [q'])) (fun q' => hb (by simp [q'])) (fun q' => hb (by simp [q'])) q)) hf (Nat.le_refl _) new
    refine ⟨.ref s.heap.objs.size, _, I1, rfl, ⟨_, x, y, rfl, I.hok.fresh (Nat.le_refl _), rfl, fun l hl => by rw [hl.inj I hqx]; exact hx, fun l hl => by rw [hl.inj I hqy]; exact hy⟩, ⟨z'', ?_, ⟨u, u2, ?_⟩, ?_, ?_⟩, fun c hcm => ?_⟩
    · exact (sb.2 _ D.TIz).trans (hk _ _ D.TIz D.TITO D.TIi1 D.TIi2 hTI)
    · exact (sb.2 _ D.TOz).trans TO'
    · exact h1'.at fun o q => (sb.2 _ D.i1z).trans q
    · exact h2'.at fun o q => (sb.2 _ D.i2z).trans q
    · have hlt : c < s.heap.objs.size := by
        have e' : c = z ∨ c = TI ∨ c = TO ∨ c = i1 ∨ c = i2 := by simpa using hcm
        rcases e' with q | q | q | q | q
        · rw [q]; exact hzl
        · rw [q]; exact Heap.lt_size hTI
        · rw [q]; exact Heap.lt_size hTO
        · rw [q]; obtain ⟨_, _, e1, _⟩ := h1.obj; exact Heap.lt_size e1
        · rw [q]; obtain ⟨_, _, e2, _⟩ := h2.obj; exact Heap.lt_size e2
      rw [upd_ne (Nat.ne_of_lt hlt)]
      exact (hf c hcm).1
  done := by
    intro X hP hw hK hc i pins s σ H E I hf st hg
    subst hP hw hK
    obtain ⟨hz, hTI, ⟨x0, y0, hTO⟩, h1, h2⟩ := st
    obtain ⟨xs, ys, hqx, hqy, e1, e2⟩ := hg
    obtain ⟨its, rv, p⟩ := hqx.is I
    obtain ⟨its2, rv2, p2⟩ := hqy.is I
    have l1 := rv.length
    have l2 := rv2.length
    exact pyNext_zipS_end (I.ok.hd hc) D hz hTI hTO h1 h2 p p2 (by simp; omega) (by simp; omega) fun h' hk => ⟨rfl, I.turnedL (t' := s.toks) (ch := [z, TI, TO, i1, i2]) (fun c o hb q =>
      hk c o (fun q' => hb (by simp [q'])) (fun q' => hb (by simp [q'])) (fun q' => hb (by simp [q'])) (fun q' => hb (by simp [q'])) q) hf⟩
  self := fun A i s Q E st h => iter_zipS st.1 h
def iZipS (K : PySem.W.Frag) (ta : TA) : TI := fun σ H R => ta σ H fun vs H1 => ∃ (ka kb : SK) (a b : Addr) (xs ys : List V), vs = [.ref a, .ref b] ∧ ka.Sq K H1 a xs ∧ kb.Sq K H1 b ys ∧ R (ItzS ka kb K a b) H1
theorem callWith_typeK {M : Model} {A : Around} {E : Value → Shared → Prop} {s : Shared} {env : Env} {pos : Pos} {T : String} {e : Expr} {rest : List Expr} {kws : List Keyword} {Q : Value → Shared → Prop}
    (h : wpAny M A (spliced (backTo pos (starEach (e :: rest) env))) (fun vs s₁ => wpAny M A (evalAll ((backToKw pos (keywordEach kws env)).map (·.2)))
      (fun kvs s₂ => wpAny M A (call (.type T) vs (((backToKw pos (keywordEach kws env)).filterMap (·.1)).zip kvs)) Q E s₂) E s₁) E s)
    (he : backTo pos (starEach (e :: rest) env) = (false, eval e env) :: backTo pos (starEach rest env) := by rfl)
    (hplain : (backTo pos (starEach (e :: rest) env)).any (·.1) = false := by rfl)
    (hall : (backToKw pos (keywordEach kws env)).all (·.1.isSome) = true := by rfl)
    (hkw : (backToKw pos (keywordEach kws env)).any (·.1.isNone) = false := by rfl) :
    wpAny M A (callWith pos (.type T) [] (backTo pos (starEach (e :: rest) env)) (backToKw pos (keywordEach kws env))) Q E s := by
  unfold callWith
  refine wpAny_bind (wpAny_holding (wpAny_mono (?_ : wpAny M A (evalArgs (.type T) true (backTo pos (starEach (e :: rest) env)) (backToKw pos (keywordEach kws env))) (fun a s₁ => wpAny M A (call (.type T) ([] ++ a.pos) a.kw) Q E s₁) E s) (fun a s₁ h₁ => wpAny_bind (wpAny_standAt ?_)) fun _ _ x => x))
  · rw [he] at h ⊢
    exact evalArgs_kwB hall h
  · simp only [hplain, hkw, Bool.or_false]
    refine wpAny_bind (wpAny_pure ?_)
    exact wpAny_bind (wpAny_mono h₁ (fun r s₂ hr => wpAny_bind (wpAny_holding (wpAny_point (wpAny_pure hr)))) fun _ _ x => x)
theorem pi_zipS {X : Cx} {e e2 : Expr} {ta : TA} {p pos tpos p2 p3 : Pos} {j : Nat} {elts : List Expr} {kk : Nat} (hg : Gl X "zip") (hm : X.mg "zip" = none) (ha : PA X [e, e2] ta)
    (he : backTo pos (starEach [e, e2] X.env) = (false, eval e X.env) :: backTo pos (starEach [e2] X.env) := by rfl) (hpl : (backTo pos (starEach [e, e2] X.env)).any (·.1) = false := by rfl) :
    PI X (.Tuple elts kk tpos) (.Call (.Name "zip" p) [e, e2] [⟨some "strict", .Constant (.bool true) j p2, p3⟩] pos) (iZipS X.K ta) := by
  refine ⟨fun pins s σ H R I h => ?_⟩
  refine wpAny_Call_Name_kw (ld_blt I hg hm PyProof.Rows.boot_zip ?_)
  refine callWith_typeK (thn (ha.run pos pins s σ H _ I h) fun us s1 ⟨vs, H1, I1, r1, q1⟩ => kws_cons (thn ((pe_bl (X := X) (b := true) (j := j) (pos := p2)).run pins s1 σ H1 (fun v H' => v = .bl true ∧ H' = H1) I1 ⟨rfl, rfl⟩) fun v s2 ⟨x, H2, I2, r2, e1, e2⟩ => evalAll_nil ?_)) he hpl
  subst e1 e2
  cases r2
  obtain ⟨ka, kb, a, b, xs, ys, ex, hqx, hqy, q⟩ := q1
  subst ex
  cases r1 with
  | cons r rr =>
    cases rr with
    | cons r' rr =>
      cases rr
      cases r
      cases r'
      have fresh5 : ∀ c, c ∈ [s2.heap.objs.size + 4, s2.heap.objs.size + 2, s2.heap.objs.size + 3, s2.heap.objs.size, s2.heap.objs.size + 1] → FpOk X pins H2 c := fun c hcm => by
        have e' : c = s2.heap.objs.size + 4 ∨ c = s2.heap.objs.size + 2 ∨ c = s2.heap.objs.size + 3 ∨ c = s2.heap.objs.size ∨ c = s2.heap.objs.size + 1 := by simpa using hcm
        have hle : s2.heap.objs.size ≤ c := by
          rcases e' with z | z | z | z | z
          · rw [z]; exact Nat.le_add_right _ _
          · rw [z]; exact Nat.le_add_right _ _
          · rw [z]; exact Nat.le_add_right _ _
          · rw [z]; exact Nat.le_refl _
          · rw [z]; exact Nat.le_add_right _ _
        exact I2.fpOk hle (I2.hok.fresh hle)
      obtain ⟨its, rv, p1⟩ := hqx.is I2
      obtain ⟨its2, rv2, p2⟩ := hqy.is I2
      refine call_zipS p1 p2 fun h' hz hTI hTO h1 h2 hsz hk => iter_zipS hz ?_
      have I3 : Inv X pins σ H2 { s2 with heap := h' } := I2.kept (t' := s2.toks) hk
      exact ⟨s2.heap.objs.size + 4, [s2.heap.objs.size + 4, s2.heap.objs.size + 2, s2.heap.objs.size + 3, s2.heap.objs.size, s2.heap.objs.size + 1], _, _, H2, rfl, I3, turn_zipS (PySem.W.ktu_apart s2.heap.objs.size a b p1.lt p2.lt), ⟨hz, hTI, ⟨_, _, hTO⟩, h1, h2⟩, fresh5, q⟩
end QZ
namespace QZ
open PySem PySem.Spec PyProof.Rows L2
open PySem.Sem (wp)
/-! ### enumerate of a list, of a tuple -/
theorem SK.draws (k : SK) {prog : Program} {w : World} {A : Around} (hh : A.handled = none) (it l : Addr) (hne : l ≠ it) (items : Array Value) :
    Draws prog w A it [it, l] items.size (fun i v => items[i]? = some v) (fun i h => k.It h it l i ∧ k.Is h l items) where
  live := fun _ _ st => let ⟨o, _, ho, _⟩ := st.1.obj; ⟨o, ho⟩
  frame := fun _ _ _ st hk => ⟨st.1.at fun o e => hk it (by simp) o e, by
    cases k with
    | l => exact Heap.IsList.at st.2 fun o e => hk l (by simp) o e
    | t => exact Heap.IsTuple.at st.2 fun o e => hk l (by simp) o e⟩
  item := fun i s Q E hi st hQ => by
    refine next_item st.1 st.2 (x := items[i]) (by simp [hi]) fun h' hit' hs' => ?_
    exact hQ _ h' s.toks (by simp [hi]) ⟨hit', st.2.extBut hs'.extBut hne⟩ hs'
  done := fun s Q E st hE => next_end hh st.1 st.2 (by simp) hE
theorem meets_enum_newT (l : Addr) (items : Array Value) (n : Nat) (dct : Option Addr) (sl : Array (Option Value)) :
    PySem.Meets (Builtin.«enumerate.__new__» ⟨[.type "enumerate", .ref l], []⟩) (fun _ R s => s.heap.get? l = some { cls := .type "tuple", dict := dct, data := .seq items n, slots := sl } ∧
      R (.ok (.ret (.ref (s.heap.push { cls := .type "tuple_iterator", data := .fields #[.ref l, .int 0 0] }).objs.size)))
        { s with heap := (s.heap.push { cls := .type "tuple_iterator", data := .fields #[.ref l, .int 0 0] }).push { cls := .type "enumerate", data := .fields #[.none, .bool false, .ref s.heap.objs.size, rawInt 0, .none, .none] } }) :=
  .of_wp fun prog w A R s h => by
    obtain ⟨hp, g, d, tk, os⟩ := s; obtain ⟨hl, h⟩ := h
    have hsub := sub_enumerate
    have hL : Heap.IsTuple (Shared.heap ⟨hp, g, d, tk, os⟩) l items := ⟨_, hl, rfl, n, rfl⟩
    wp_walk using AutoSeq1.wpAny_loadPart' hl
    refine wpAny_stack_any fun st => wpAny_pure ?_
    split
    · rename_i c _ _ _ _ _
      cases (c == Value.type "enumerate")
      · wp_walk using AutoSeq1.wpAny_loadPart' hl, wpAny_pyIter_tuple hL
        exact ⟨_, rfl, h⟩
      · wp_walk using AutoSeq1.wpAny_loadPart' hl, wpAny_pyIter_tuple hL
        exact ⟨_, rfl, h⟩
    · wp_walk using AutoSeq1.wpAny_loadPart' hl, wpAny_pyIter_tuple hL
      exact ⟨_, rfl, h⟩
section
variable {prog : Program} {w : World} {A : Around} {E : Value → Shared → Prop} {s : Shared}
theorem call_enumT {l : Addr} {items : Array Value} {Q : Value → Shared → Prop} (hL : s.heap.IsTuple l items)
    (h : ∀ h', IsEnum h' (s.heap.objs.size + 1) s.heap.objs.size 0 .none → h'.IsTupleIter s.heap.objs.size l 0 → h'.objs.size = s.heap.objs.size + 2 →
      (∀ b o, s.heap.get? b = some o → h'.get? b = some o) → Q (.ref (s.heap.objs.size + 1)) { s with heap := h' }) :
    wpAny (model prog w) A (call (.type "enumerate") [.ref l]) Q E s := by
  obtain ⟨⟨c, dct, dt, sl⟩, hl, hc, n, hd⟩ := hL
  replace hc : c = .type "tuple" := hc
  replace hd : dt = .seq items n := hd
  subst hc hd
  refine callType_new F.called_enumerate (by decide) (F.typeCall_enumerate_1 _) (F.newCall_enumerate_1 _) (fun obj => F.args_object_init_2 obj _) F.entry_enumerate_new
    (meets_enum_newT l items n dct sl) ⟨hl, ?_⟩
  have hz : (s.heap.push { cls := .type "tuple_iterator", data := .fields #[.ref l, .int 0 0] }).objs.size = s.heap.objs.size + 1 := Heap.size_push ..
  show _ ∧ _
  rw [hz]
  have he : IsEnum ((s.heap.push { cls := .type "tuple_iterator", data := .fields #[.ref l, .int 0 0] }).push
      { cls := .type "enumerate", data := .fields #[.none, .bool false, .ref s.heap.objs.size, rawInt 0, .none, .none] }) (s.heap.objs.size + 1) s.heap.objs.size 0 .none := by
    have := Heap.get?_push_size (s.heap.push { cls := .type "tuple_iterator", data := .fields #[.ref l, .int 0 0] })
      (o := { cls := .type "enumerate", data := .fields #[.none, .bool false, .ref s.heap.objs.size, rawInt 0, .none, .none] }) rfl
    rw [hz] at this
    exact this
  refine ⟨⟨_, he, rfl⟩, h _ he ⟨_, Heap.get?_push_of_some _ (Heap.get?_push_size _ rfl), rfl, rfl⟩ (by rw [Heap.size_push, hz]) fun b o e => Heap.get?_push_of_some _ (Heap.get?_push_of_some _ e)⟩
theorem call_enumS {k : SK} {l : Addr} {items : Array Value} {Q : Value → Shared → Prop} (hL : k.Is s.heap l items)
    (h : ∀ h', IsEnum h' (s.heap.objs.size + 1) s.heap.objs.size 0 .none → k.It h' s.heap.objs.size l 0 → h'.objs.size = s.heap.objs.size + 2 →
      (∀ b o, s.heap.get? b = some o → h'.get? b = some o) → Q (.ref (s.heap.objs.size + 1)) { s with heap := h' }) :
    wpAny (model prog w) A (call (.type "enumerate") [.ref l]) Q E s := by
  cases k with
  | l => exact call_enumerate_list hL h
  | t => exact call_enumT hL h
end
section
variable {prog : Program} {w : World} {A : Around} {E : Value → Shared → Prop} {s : Shared}
theorem enumS_end {k : SK} {e it l : Addr} {n : Nat} {items : Array Value} {i : Int} {old : Value} {Q : Option Value → Shared → Prop} (hh : A.handled = none)
    (he : IsEnum s.heap e it i old) (hit : k.It s.heap it l n) (hl : k.Is s.heap l items) (hx : items[n]? = none)
    (hQ : ∀ h', Heap.ExtBut it s.heap h' → Q none { s with heap := h' }) : wpAny (model prog w) A (pyNext (.ref e)) Q E s := by
  have hT : s.TypeIs (.ref e) "enumerate" := ⟨_, he, rfl⟩
  unfold pyNext
  refine wpAny_bind (wpAny_attempt (wpAny_callSpecial?_slot (name := Str.ofString "__next__") hT F.slot_enumerate_next
    (wpAny_call_entry F.slot_enumerate_next hT F.entry_enumerate_next ?_ (F.args_enumerate_next_1 _))))
  show wpAny _ _ (field (.ref e) 2 >>= _) _ _ _
  refine wpAny_bind (wpAny_field he rfl (x := .ref it) rfl ?_)
  refine wpAny_bind (next_end (by simpa using hh) hit hl hx fun h' x he' hx' => ?_)
  obtain ⟨o, ho, hc⟩ := hx'
  refine wpAny_bind (wpAny_isInstance (T := "StopIteration") (b := true) ⟨o, ho, hc⟩ isSubtype_stop ?_)
  exact wpAny_pure (hQ _ he')
end
/-- the sequence at a as it stands at each turn, each item in a new pair -/
def IteS (k : SK) (K : PySem.W.Frag) (a : Addr) : It :=
  ⟨fun i H => ∃ (xs : List V) (x : V), k.Sq K H a xs ∧ xs[i]? = some x, fun i H v H' => ∃ T x, v = .ref T ∧ H T = none ∧ H' = upd H T (.tup [.int (i : Nat), x]) ∧ ∀ xs, k.Sq K H a xs → xs[i]? = some x, fun i H => ∃ xs : List V, k.Sq K H a xs ∧ xs.length ≤ i⟩
theorem turn_enumS {k : SK} {P : Program} {w : World} {K : PySem.W.Frag} {elts : List Expr} {kk : Nat} {tpos : Pos} (a e it : Addr) :
    Turn P w K (.Tuple elts kk tpos) (IteS k K a) [e, it] e (fun i h => (∃ old, IsEnum h e it ((i : Nat) : Int) old) ∧ k.It h it a i ∧ e ≠ it ∧ a ≠ it ∧ a ≠ e) where
  mem := by simp
  obj := fun i h st b hb => by
    obtain ⟨⟨old, he⟩, hi, _⟩ := st
    obtain ⟨o, vs, ho, hd⟩ := hi.obj
    have e' : b = e ∨ b = it := by simpa using hb
    rcases e' with z | z
    · rw [z]; exact ⟨_, he, fun v q => nomatch q⟩
    · rw [z]; exact ⟨o, ho, fun v q => by rw [hd] at q; cases q⟩
  keep := fun i h h' st k => let ⟨⟨old, he⟩, hi, hne⟩ := st; ⟨⟨old, k e (by simp) _ he⟩, hi.at fun o q => k it (by simp) o q, hne⟩
  item := by
    intro X hP hw hK hc i pins s σ H E I hf st hg
    subst hP hw hK
    obtain ⟨⟨old, he⟩, hit, hne, hai, hae⟩ := st
    obtain ⟨xs, x, hq, hx⟩ := hg
    obtain ⟨its, rv, p⟩ := hq.is I
    obtain ⟨u, hu, ru⟩ := rv.get hx
    have hel : e < s.heap.objs.size := Heap.lt_size he
    have hil : it < s.heap.objs.size := by obtain ⟨_, _, q, _⟩ := hit.obj; exact Heap.lt_size q
    have hlt : i < its.toArray.size := by
      have := (List.getElem?_eq_some_iff.mp hu).1
      simpa using this
    refine wpAny_pyNext_enum_itemD (k.draws (by simpa using I.ok.hd hc) it a hai its.toArray) he ⟨hit, p⟩ hlt hne (by simp [hne, Ne.symm hae]) fun x1 h' tk hx1 ho hit' hT hsz hk => ?_
    have ex : x1 = u := by
      have q : its[i]? = some x1 := by simpa using hx1
      rw [hu] at q
      exact (Option.some.inj q).symm
    subst ex
    refine ⟨_, rfl, wpAny_letOwnedTupleGo_enum (s := { s with heap := h', toks := tk + 1 }) ho fun h'' he' sb => ?_⟩
    have hT2 : h''.get? s.heap.objs.size = some { cls := .type "tuple", data := .seq #[.int i tk, x1] } := (sb.2 _ (Nat.ne_of_gt hel)).trans hT
    have new : ObjOk X.prog X.w (upd H s.heap.objs.size (.tup [.int (i : Nat), x])) h'' s.heap.objs.size (.tup [.int (i : Nat), x]) :=
      ⟨by show 2 ≤ sizeLine; decide, [.int i tk, x1], .cons ⟨_, rfl⟩ (.cons ru .nil), ⟨_, hT2, rfl, _, rfl⟩⟩
    have I1 : Inv X pins σ (upd H s.heap.objs.size (.tup [.int (i : Nat), x])) { s with heap := h'', toks := tk + 1 } :=
      I.turnedNew (ch := [e, it]) (fun b ob hb q => (sb.2 b (fun z => hb (by simp [z]))).trans (hk b ob (fun z => hb (by simp [z])) (fun z => hb (by simp [z])) q)) hf (Nat.le_refl _) new
    refine ⟨.ref s.heap.objs.size, _, I1, rfl, ⟨_, x, rfl, I.hok.fresh (Nat.le_refl _), rfl, fun ys hy => by rw [hy.inj I hq]; exact hx⟩, ⟨⟨x1, ?_⟩, hit'.1.at fun o q => (sb.2 it (Ne.symm hne)).trans q, hne, hai, hae⟩, fun b hb => ?_⟩
    · have e1 : ((i + 1 : Nat) : Int) = (i : Int) + 1 := by omega
      rw [e1]; exact he'
    · have hb' : b < s.heap.objs.size := by
        have e' : b = e ∨ b = it := by simpa using hb
        rcases e' with z | z
        · rw [z]; exact hel
        · rw [z]; exact hil
      rw [upd_ne (Nat.ne_of_lt hb')]
      exact (hf b hb).1
  done := by
    intro X hP hw hK hc i pins s σ H E I hf st hg
    subst hP hw hK
    obtain ⟨⟨old, he⟩, hit, hne, hai, hae⟩ := st
    obtain ⟨xs, hq, hx⟩ := hg
    obtain ⟨its, rv, p⟩ := hq.is I
    obtain ⟨f0, f1, f2, f3, f4, f5⟩ := hf it (by simp)
    have hl := rv.length
    exact enumS_end (I.ok.hd hc) he hit p (by simp; omega) fun h' eb => ⟨rfl, I.turned (t' := s.toks) (fun b o hb q => eb b o hb q) f0 f1 f3 f4 f5⟩
  self := fun A i s Q E st h => let ⟨⟨_, he⟩, _⟩ := st; wpAny_pyIter_enum he h
def iEnumS (K : PySem.W.Frag) (ta : TA) : TI := fun σ H R => ta σ H fun vs H1 => ∃ (k : SK) (a : Addr) (xs : List V), vs = [.ref a] ∧ k.Sq K H1 a xs ∧ R (IteS k K a) H1
theorem pi_enumS {X : Cx} {e : Expr} {ta : TA} {p pos tpos : Pos} {elts : List Expr} {kk : Nat} (hg : Gl X "enumerate") (hm : X.mg "enumerate" = none) (ha : PA X [e] ta) (hs : starEach [e] X.env = [(false, eval e X.env)] := by rfl) :
    PI X (.Tuple elts kk tpos) (.Call (.Name "enumerate" p) [e] [] pos) (iEnumS X.K ta) := by
  refine ⟨fun pins s σ H R I h => ?_⟩
  refine Call_ (ld_blt I hg hm boot_enumerate (PyProof.Rows.callWith_type1 (thn (ha.run pos pins s σ H _ I h) fun us s1 ⟨vs, H1, I1, r1, q1⟩ => ?_) hs rfl))
  obtain ⟨k, a, xs, ex, hq, q⟩ := q1
  subst ex
  cases r1 with
  | cons r rr =>
    cases rr
    cases r
    obtain ⟨its, rv, p'⟩ := hq.is I1
    refine call_enumS p' fun h' he hit hsz hk => wpAny_pyIter_enum he ?_
    have I2 : Inv X pins σ H1 { s1 with heap := h' } := I1.kept (t' := s1.toks) hk
    have hal := p'.lt
    refine ⟨s1.heap.objs.size + 1, [s1.heap.objs.size + 1, s1.heap.objs.size], _, _, H1, rfl, I2, turn_enumS a (s1.heap.objs.size + 1) s1.heap.objs.size, ⟨⟨.none, he⟩, hit, Nat.succ_ne_self _, Nat.ne_of_lt hal, Nat.ne_of_lt (Nat.lt_succ_of_lt hal)⟩, fun b hb => ?_, q⟩
    have e' : b = s1.heap.objs.size + 1 ∨ b = s1.heap.objs.size := by simpa using hb
    have hle : s1.heap.objs.size ≤ b := by
      rcases e' with z | z
      · rw [z]; exact Nat.le_add_right _ _
      · rw [z]; exact Nat.le_refl _
    exact I1.fpOk hle (I1.hok.fresh hle)
end QZ
namespace Y
open PySem L2 QZ
open Evl (Ex)
/-! ### zip, enumerate -/
def zipW (us vs : List W) : List W := List.zipWith (fun u v => .tup [u, v]) us vs
def enW (us : List W) : List W := us.mapIdx fun i u => .tup [.int (i : Nat), u]
def W.sk : W → Option (SK × List W)
  | .lst ws => some (.l, ws)
  | .tup ws => some (.t, ws)
  | _ => none
/-- zip of two lists | two tuples -/
def iZp (a : DA) : DI := fun st k x => a st (fun rs st1 => match rs with
  | [.w (.lst us), .w (.lst vs)] => k (zipW us vs) st1
  | [.w (.tup us), .w (.tup vs)] => k (zipW us vs) st1
  | _ => False) x
/-- zip(.., strict=True) of lists and tuples of one length -/
def iZs (a : DA) : DI := fun st k x => a st (fun rs st1 => match rs with
  | [.w u, .w v] => match u.sk, v.sk with
    | some (_, us), some (_, vs) => us.length = vs.length ∧ k (zipW us vs) st1
    | _, _ => False
  | _ => False) x
def iEn (a : DA) : DI := fun st k x => a st (fun rs st1 => match rs with
  | [.w u] => match u.sk with
    | some (_, us) => k (enW us) st1
    | _ => False
  | _ => False) x
section
variable {X : Cx} {Z : Zx} {E : XS} {tg e e2 : Expr} {es : List Expr} {ds : DA} {K : PySem.W.Frag} {H0 : Hp} {a b : Addr} {xs ys : List V} {us vs : List W} {ka kb : SK}
theorem sk_ex {H H' : Hp} (e : Ex H H') {k : SK} (h : k.Sq K H a xs) : k.Sq K H' a xs := by
  cases k with
  | l => exact Evl.ex_l e h
  | t => exact Evl.ex_t e h
theorem sk_rep {v : V} {w : W} {k : SK} {ws : List W} (h : Rep K Z H0 v w) (e : w.sk = some (k, ws)) : ∃ a xs, v = .ref a ∧ k.Sq K H0 a xs ∧ Reps K Z H0 xs ws := by
  cases w with
  | lst us => cases e; cases h with | lst h r => exact ⟨_, _, rfl, .of h, r⟩
  | tup us => cases e; cases h with | tup h r => exact ⟨_, _, rfl, h, r⟩
  | _ => cases e
theorem zip_step (ha : ka.Sq K H0 a xs) (hb : kb.Sq K H0 b ys) (rx : Reps K Z H0 xs us) (ry : Reps K Z H0 ys vs) (i : Nat) (H Hc : Hp) (e : Ex H0 Hc) (e' : Ex Hc H) (w : W) (hw : (zipW us vs)[i]? = some w) :
    (ItzS ka kb K a b).go i H ∧ ∀ x H', (ItzS ka kb K a b).yld i H x H' → ∃ Hc', Gr Hc H Hc' H' ∧ Rep K Z Hc' x w := by
  unfold zipW at hw
  rw [List.getElem?_zipWith] at hw
  cases q1 : us[i]? with
  | none => rw [q1] at hw; cases hw
  | some u =>
    cases q2 : vs[i]? with
    | none => rw [q1, q2] at hw; cases hw
    | some v =>
      rw [q1, q2] at hw
      cases hw
      obtain ⟨x, h1, r1⟩ := rx.get q1
      obtain ⟨y, h2, r2⟩ := ry.get q2
      have sa := sk_ex (e.trans e') ha
      have sb := sk_ex (e.trans e') hb
      refine ⟨⟨xs, ys, x, y, sa, sb, h1, h2⟩, fun z H' yl => ?_⟩
      obtain ⟨T, x', y', rfl, hT, rfl, f1, f2⟩ := yl
      have g1 := f1 xs sa
      have g2 := f2 ys sb
      rw [h1] at g1; cases g1
      rw [h2] at g2; cases g2
      refine ⟨_, Gr.one (o := .tup [x, y]) e' hT, ?_⟩
      have ex : Ex Hc (upd Hc T (.tup [x, y])) := (Gr.one (o := .tup [x, y]) e' hT).e0
      exact .tup (SqT.of upd_same) (.cons (r1.mono (e.trans ex)) (.cons (r2.mono (e.trans ex)) .nil))
theorem zip_len (us vs : List W) : (zipW us vs).length = min us.length vs.length := List.length_zipWith
theorem it_zipS (ha : ka.Sq K H0 a xs) (hb : kb.Sq K H0 b ys) (rx : Reps K Z H0 xs us) (ry : Reps K Z H0 ys vs) (hl : us.length = vs.length) : ItOk K Z H0 (ItzS ka kb K a b) (zipW us vs) := fun i H Hc e e' => by
  refine ⟨fun h => ?_, fun w hw => zip_step ha hb rx ry i H Hc e e' w hw⟩
  rw [zip_len] at h
  exact ⟨xs, ys, sk_ex (e.trans e') ha, sk_ex (e.trans e') hb, by rw [rx.length]; omega, by rw [ry.length]; omega⟩
theorem it_zipL (ha : SqL K H0 a xs) (hb : SqL K H0 b ys) (rx : Reps K Z H0 xs us) (ry : Reps K Z H0 ys vs) : ItOk K Z H0 (Itz K a b) (zipW us vs) := fun i H Hc e e' => by
  refine ⟨fun h => ?_, fun w hw => zip_step (ka := .l) (kb := .l) ha hb rx ry i H Hc e e' w hw⟩
  rw [zip_len] at h
  refine ⟨xs, ys, Evl.ex_l (e.trans e') ha, Evl.ex_l (e.trans e') hb, ?_⟩
  rw [rx.length, ry.length]
  omega
theorem it_zipT (ha : SqT K H0 a xs) (hb : SqT K H0 b ys) (rx : Reps K Z H0 xs us) (ry : Reps K Z H0 ys vs) : ItOk K Z H0 (RZ.ItzT K a b) (zipW us vs) := fun i H Hc e e' => by
  refine ⟨fun h => ?_, fun w hw => zip_step (ka := .t) (kb := .t) ha hb rx ry i H Hc e e' w hw⟩
  rw [zip_len] at h
  refine ⟨xs, ys, Evl.ex_t (e.trans e') ha, Evl.ex_t (e.trans e') hb, ?_⟩
  rw [rx.length, ry.length]
  omega
theorem it_enum {k : SK} (ha : k.Sq K H0 a xs) (rx : Reps K Z H0 xs us) : ItOk K Z H0 (IteS k K a) (enW us) := fun i H Hc e e' => by
  have sa := sk_ex (e.trans e') ha
  refine ⟨fun h => ⟨xs, sa, by rw [rx.length]; simpa [enW] using h⟩, fun w hw => ?_⟩
  unfold enW at hw
  rw [List.getElem?_mapIdx] at hw
  obtain ⟨u, h1, rfl⟩ := Option.map_eq_some_iff.mp hw
  obtain ⟨x, h2, r⟩ := rx.get h1
  refine ⟨⟨xs, x, sa, h2⟩, fun z H' yl => ?_⟩
  obtain ⟨T, x', rfl, hT, rfl, f1⟩ := yl
  have g1 := f1 xs sa
  rw [h2] at g1; cases g1
  refine ⟨_, Gr.one (o := .tup [.int (i : Nat), x]) e' hT, ?_⟩
  have ex : Ex Hc (upd Hc T (.tup [.int (i : Nat), x])) := (Gr.one (o := .tup [.int (i : Nat), x]) e' hT).e0
  exact .tup (SqT.of upd_same) (.cons .int (.cons (r.mono (e.trans ex)) .nil))
theorem pid_zip {p pos tpos : Pos} {elts : List Expr} {kk : Nat} (hg : Gl X "zip") (hm : X.mg "zip" = none) (ha : PAD X Z E [e, e2] ds)
    (hs : starEach [e, e2] X.env = (false, eval e X.env) :: starEach [e2] X.env := by rfl) (hpl : (backTo pos (starEach [e2] X.env)).any (·.1) = false := by rfl) : PID X Z E (.Tuple elts kk tpos) (.Call (.Name "zip" p) [e, e2] [] pos) (iZp ds) := by
  refine pi_weak (RZ.pi_zipA hg hm ha hs hpl) fun σ H Q q => ?_
  obtain ⟨H0, F, G, pv, st, k, kx, wd, ss, hd, hk, hx⟩ := q
  refine tA_seq wd ss hx hd fun H1 G1 H1' st1 vs rs e1 wd1 ss1 rr k1 => ?_
  split at k1
  · cases rr with | cons r rr => cases rr with | cons r2 rr => cases rr; cases r with | w rv => cases r2 with | w rv2 => cases rv with | lst h1 q1 => cases rv2 with | lst h2 q2 =>
      exact ⟨_, _, _, _, rfl, .inl ⟨.of (wd1.ex _ _ h1), .of (wd1.ex _ _ h2), hk _ _ _ _ _ _ e1 wd1 ss1 (it_zipL (.of h1) (.of h2) q1 q2) k1⟩⟩
  · cases rr with | cons r rr => cases rr with | cons r2 rr => cases rr; cases r with | w rv => cases r2 with | w rv2 => cases rv with | tup h1 q1 => cases rv2 with | tup h2 q2 =>
      exact ⟨_, _, _, _, rfl, .inr ⟨Evl.ex_t wd1.ex h1, Evl.ex_t wd1.ex h2, hk _ _ _ _ _ _ e1 wd1 ss1 (it_zipT h1 h2 q1 q2) k1⟩⟩
  · exact k1.elim
theorem pid_zipS {p pos tpos p2 p3 : Pos} {j : Nat} {elts : List Expr} {kk : Nat} (hg : Gl X "zip") (hm : X.mg "zip" = none) (ha : PAD X Z E [e, e2] ds)
    (he : backTo pos (starEach [e, e2] X.env) = (false, eval e X.env) :: backTo pos (starEach [e2] X.env) := by rfl) (hpl : (backTo pos (starEach [e, e2] X.env)).any (·.1) = false := by rfl) :
    PID X Z E (.Tuple elts kk tpos) (.Call (.Name "zip" p) [e, e2] [⟨some "strict", .Constant (.bool true) j p2, p3⟩] pos) (iZs ds) := by
  refine pi_weak (pi_zipS hg hm ha he hpl) fun σ H Q q => ?_
  obtain ⟨H0, F, G, pv, st, k, kx, wd, ss, hd, hk, hx⟩ := q
  refine tA_seq wd ss hx hd fun H1 G1 H1' st1 vs rs e1 wd1 ss1 rr k1 => ?_
  split at k1
  · rename_i u v
    cases rr with
    | cons r rr => cases rr with
      | cons r2 rr =>
        cases rr
        cases r with | w rv => cases r2 with | w rv2 =>
        split at k1
        · rename_i ka us kb vs g1 g2
          obtain ⟨a, xs, rfl, h1, q1⟩ := sk_rep rv g1
          obtain ⟨b, ys, rfl, h2, q2⟩ := sk_rep rv2 g2
          exact ⟨ka, kb, a, b, xs, ys, rfl, sk_ex wd1.ex h1, sk_ex wd1.ex h2, hk _ _ _ _ _ _ e1 wd1 ss1 (it_zipS h1 h2 q1 q2 k1.1) k1.2⟩
        · exact k1.elim
  · exact k1.elim
theorem pid_enum {p pos tpos : Pos} {elts : List Expr} {kk : Nat} (hg : Gl X "enumerate") (hm : X.mg "enumerate" = none) (ha : PAD X Z E [e] ds) (hs : starEach [e] X.env = [(false, eval e X.env)] := by rfl) :
    PID X Z E (.Tuple elts kk tpos) (.Call (.Name "enumerate" p) [e] [] pos) (iEn ds) := by
  refine pi_weak (pi_enumS hg hm ha hs) fun σ H Q q => ?_
  obtain ⟨H0, F, G, pv, st, k, kx, wd, ss, hd, hk, hx⟩ := q
  refine tA_seq wd ss hx hd fun H1 G1 H1' st1 vs rs e1 wd1 ss1 rr k1 => ?_
  split at k1
  · rename_i u
    cases rr with
    | cons r rr =>
      cases rr
      cases r with | w rv =>
      split at k1
      · rename_i ka us g1
        obtain ⟨a, xs, rfl, h1, q1⟩ := sk_rep rv g1
        exact ⟨ka, a, xs, rfl, sk_ex wd1.ex h1, hk _ _ _ _ _ _ e1 wd1 ss1 (it_enum h1 q1) k1⟩
      · exact k1.elim
  · exact k1.elim
end
end Y
namespace Y
open PySem L2
open PySem.Spec PyProof.Rows
open Evl (Ex)
/-! ### xs + ys as an own list -/
def lPlus (a b : DE) : DL := fun st k x => a st (fun r1 st1 => b st1 (fun r2 st2 => match r1.val st2, r2.val st2 with
  | some (.lst i), some (.lst j) => i.length + j.length ≤ sizeLine ∧ k (i ++ j) st2
  | _, _ => False) x) x
section
variable {X : Cx} {Z : Zx} {E : XS} {a b : Expr} {da db : DE} {pos : Pos}
theorem pl_plus (ha : PD X Z E a da) (hb : PD X Z E b db) : PLD X Z E (.BinOp a .Add b pos) (lPlus da db) := by
  refine pe_weak (pe_op op_cat ha hb) fun σ H Q q => ?_
  obtain ⟨H0, F, G, pv, st, k, kx, wd, ss, hd, hk, hx⟩ := q
  refine tE_seq wd ss hx hd fun H1 G1 H1' st1 v1 r1 e1 wd1 ss1 rr1 k1 => ?_
  refine tE_seq wd1 ss1 (hx.up e1) k1 fun H2 G2 H2' st2 v2 r2 e2 wd2 ss2 rr2 k2 => ?_
  have k2 : (match r1.val st2, r2.val st2 with
    | some (.lst i), some (.lst j) => i.length + j.length ≤ sizeLine ∧ k (i ++ j) st2
    | _, _ => False) := k2
  split at k2
  · rename_i i j q1 q2
    obtain ⟨p, xs, rfl, h1, rs1⟩ := ((rr1.mono e2).peek ss2 wd2 q1).lst_of wd2.ex
    obtain ⟨p', ys, rfl, h2, rs2⟩ := (rr2.peek ss2 wd2 q2).lst_of wd2.ex
    refine ⟨p, p', xs, ys, rfl, rfl, h1, h2, by rw [rs1.length, rs2.length]; exact k2.1, fun p2 hp => ?_⟩
    exact hk _ _ _ _ _ _ _ (e1.trans e2) (wd2.hand hp) (wd2.free hp).2.1 ss2 (rs1.append rs2) k2.2
  · exact k2.elim
end
end Y
/-! xs[a::c], c above 0 -/
namespace Y
open PySem L2
open PySem.Spec PyProof.Rows
def stepI (n a c : Nat) : List Nat := (List.range ((n - a + c - 1) / c)).map fun k => a + c * k
def stepX {α : Type} (xs : List α) (a c : Nat) : List α := (stepI xs.length a c).filterMap (xs[·]?)
theorem step_range (n a c : Nat) (hc : 0 < c) : sliceRange ((min a n : Nat) : Int) (n : Int) (c : Int) = stepI n a c := by
  unfold sliceRange stepI
  have h1 : (c : Int) > 0 := by omega
  rw [if_pos h1]
  by_cases h : a < n
  · have e0 : min a n = a := by omega
    rw [e0, if_pos (by omega)]
    have e : ((n : Int) - (a : Int) + (c : Int) - 1) / (c : Int) = (((n - a + c - 1) / c : Nat) : Int) := by
      rw [Int.natCast_ediv]
      congr 1
      omega
    rw [e]
    show (List.range ((((n - a + c - 1) / c : Nat) : Int)).toNat).map (fun k : Nat => ((a : Int) + (c : Int) * (k : Int)).toNat) = _
    rw [Int.toNat_natCast]
    refine List.map_congr_left fun k _ => ?_
    have : ((a : Int) + (c : Int) * (k : Int)) = ((a + c * k : Nat) : Int) := by rw [Int.natCast_add, Int.natCast_mul]
    rw [this, Int.toNat_natCast]
  · rw [if_neg (by omega)]
    have e : (n - a + c - 1) / c = 0 := Nat.div_eq_of_lt (by omega)
    rw [e]
    rfl
theorem step_bounds (l : Option Nat) (c n : Nat) (hc : 0 < c) : sliceBounds (l.map fun (k : Nat) => (k : Int)) none (some (c : Int)) n = (((min (l.getD 0) n : Nat) : Int), (n : Int), (c : Int)) := by
  have h1 : (c : Int) > 0 := by omega
  cases l with
  | none => simp [sliceBounds, h1]; try omega
  | some k =>
    have h2 : ¬ (k : Int) < 0 := by omega
    simp [sliceBounds, h1, h2]; try omega
theorem step_pick (items : Array Value) (l : Option Nat) (c : Nat) (hc : 0 < c) : slicePick items (l.map fun (k : Nat) => (k : Int)) none (some (c : Int)) = (stepX items.toList (l.getD 0) c).toArray := by
  unfold slicePick stepX
  rw [step_bounds l c items.size hc]
  show ((sliceRange ((min (l.getD 0) items.size : Nat) : Int) (items.size : Int) (c : Int)).filterMap (items[·]?)).toArray = _
  rw [step_range _ _ _ hc, Array.length_toList]
  congr 2
  funext x
  simp
theorem Vals_at : ∀ {xs : List V} {its : List Value} (j : Nat), Vals xs its → (xs[j]? = none ∧ its[j]? = none) ∨ ∃ x v, xs[j]? = some x ∧ its[j]? = some v ∧ RelV x v
  | _, _, j, .nil => .inl ⟨by simp, by simp⟩
  | _, _, 0, .cons h r => .inr ⟨_, _, rfl, rfl, h⟩
  | _, _, j + 1, .cons h r => by
    have := Vals_at j r
    simpa using this
theorem Vals_pick {xs : List V} {its : List Value} (r : Vals xs its) : ∀ js : List Nat, Vals (js.filterMap (xs[·]?)) (js.filterMap (its[·]?))
  | [] => .nil
  | j :: js => by
    rcases Vals_at j r with ⟨h1, h2⟩ | ⟨x, v, h1, h2, h3⟩
    · rw [List.filterMap_cons_none h1, List.filterMap_cons_none h2]
      exact Vals_pick r js
    · rw [List.filterMap_cons_some h1, List.filterMap_cons_some h2]
      exact .cons h3 (Vals_pick r js)
theorem stepI_len (n a c : Nat) (hc : 0 < c) : (stepI n a c).length ≤ n := by
  unfold stepI
  rw [List.length_map, List.length_range]
  by_cases h : a < n
  · refine Nat.div_le_of_le_mul ?_
    have h1 : n - a ≤ n := by omega
    have h2 : 1 * (n - 1) ≤ c * (n - 1) := Nat.mul_le_mul_right _ hc
    have h3 : c * n = c * (n - 1) + c := by
      have : n = n - 1 + 1 := by omega
      conv => lhs; rw [this, Nat.mul_succ]
    omega
  · have e : (n - a + c - 1) / c = 0 := Nat.div_eq_of_lt (by omega)
    rw [e]; exact Nat.zero_le _
theorem stepX_len {α : Type} (xs : List α) (a c : Nat) (hc : 0 < c) : (stepX xs a c).length ≤ xs.length := Nat.le_trans (List.length_filterMap_le _ _) (stepI_len _ _ _ hc)
section
variable {X : Cx} {e : Expr} {te : TE} {lo : Option Expr} {l : Option Nat}
abbrev tL0 (l : Option Nat) : TO := fun σ H Q => Q (l.map fun (k : Nat) => (k : Int)) H
theorem po_lit {a k : Nat} {p : Pos} : PO X (some (.Constant (.int a) k p)) (tL0 (some a)) := ⟨fun pins s σ H Q I q => (po_some pe_int).run pins s σ H Q I ⟨_, rfl, q⟩⟩
theorem po_no : PO X none (tL0 none) := ⟨fun pins s σ H Q I q => po_none.run pins s σ H Q I q⟩
def tStepL (K : PySem.W.Frag) (a c : Nat) (te : TE) : TE := fun σ H Q => te σ H fun x H1 => ∃ p xs, x = .ref p ∧ SqL K H1 p xs ∧ ∀ p', H1 p' = none → Q (.ref p') (upd H1 p' (.lst (stepX xs a c)))
theorem pe_stepL {c k : Nat} {p1 p3 pos : Pos} (hc : 0 < c) (he : PE X e te) (hl : PO X lo (tL0 l)) : PE X (.Subscript e (.Slice lo none (some (.Constant (.int c) k p1)) p3) pos) (tStepL X.K (l.getD 0) c te) := by
  refine ⟨fun pins s σ H Q I h => ?_⟩
  refine Subscript_ (thn (he.run pins s σ H _ I h) fun v s1 ⟨x, H1, I1, r1, q1⟩ => ?_)
  obtain ⟨a, xs, ex, hx, q⟩ := q1
  subst ex
  cases r1
  have hst : PO X (some (.Constant (.int c) k p1)) (tL0 (some c)) := po_lit
  refine wpAny_Slice (thn (hl.run pins s1 σ H1 (fun o H2 => o = (l.map fun (k : Nat) => (k : Int)) ∧ H2 = H1) I1 ⟨rfl, rfl⟩) fun vl s2 ⟨l', H2, I2, pl, el, e2⟩ => ?_)
  subst el e2
  refine thn (po_none.run pins s2 σ H2 (fun o H3 => o = none ∧ H3 = H2) I2 ⟨rfl, rfl⟩) fun vu s3 ⟨u, H3, I3, pu, eu, e3⟩ => ?_
  subst eu e3
  refine thn (hst.run pins s3 σ H3 (fun o H4 => o = some (c : Int) ∧ H4 = H3) I3 ⟨rfl, rfl⟩) fun vs s4 ⟨o, H4, I4, ps, eo, e4⟩ => ?_
  subst eo e4
  have I5 : Inv X pins σ H4 { s4 with heap := s4.heap.push { cls := .type "slice", data := .fields #[vl, vu, vs] } } := I4.kept (t' := s4.toks) fun b ob q => Heap.get?_push_of_some _ q
  obtain ⟨its, r, ht, hz⟩ := I5.list hx
  have hlen := r.length
  show wpAny (model X.prog X.w) X.A (subscriptTail e (.Slice lo none (some (.Constant (.int c) k p1)) p3) (.ref a) (.ref s4.heap.objs.size)) (EP X pins σ Q) X.xe { s4 with heap := s4.heap.push { cls := .type "slice", data := .fields #[vl, vu, vs] } }
  refine tail_any (ops := [.ref a, .ref s4.heap.objs.size]) ht.isList.typeIs (PySem.slot_list_getitem.lookup) ?_ (by with_unfolding_all rfl)
  refine wpAny_getItem_list_slice ht.isList (Heap.IsSliceOf.new _ vl vu vs) pl pu ps (fun e => by have := Option.some.inj e; omega) ?_ (by rw [List.size_toArray]; omega)
  rw [step_pick _ _ _ hc]
  refine ⟨.ref _, _, I5.laid (t' := s4.toks) (o := .lst (stepX xs (l.getD 0) c)) (fun b ob q => Heap.get?_push_of_some _ q) (Nat.le_refl _) ?_, rfl, q _ (I5.hok.fresh (Nat.le_refl _))⟩
  refine ⟨Nat.le_trans (stepX_len xs _ _ hc) hz, _, 0, ?_, Heap.get?_push_size _ rfl⟩
  unfold stepX
  rw [← hlen]
  exact Vals_pick r _
end
end Y
namespace Y
open PySem L2
open PySem.Spec PyProof.Rows
open Evl (Ex)
/-! ### xs[a::c] of a list -/
def lStep (a c : Nat) (d : DE) : DL := fun st k x => d st (fun r st1 => match r.val st1 with
  | some (.lst ws) => k (stepX ws a c) st1
  | _ => False) x
theorem Reps_at {K : PySem.W.Frag} {Z : Zx} {H : Hp} : ∀ {xs : List V} {ws : List W} (j : Nat), Reps K Z H xs ws → (xs[j]? = none ∧ ws[j]? = none) ∨ ∃ x v, xs[j]? = some x ∧ ws[j]? = some v ∧ Rep K Z H x v
  | _, _, j, .nil => .inl ⟨by simp, by simp⟩
  | _, _, 0, .cons h r => .inr ⟨_, _, rfl, rfl, h⟩
  | _, _, j + 1, .cons h r => by
    have := Reps_at j r
    simpa using this
theorem Reps_pick {K : PySem.W.Frag} {Z : Zx} {H : Hp} {xs : List V} {ws : List W} (r : Reps K Z H xs ws) : ∀ js : List Nat, Reps K Z H (js.filterMap (xs[·]?)) (js.filterMap (ws[·]?))
  | [] => .nil
  | j :: js => by
    rcases Reps_at j r with ⟨h1, h2⟩ | ⟨x, v, h1, h2, h3⟩
    · rw [List.filterMap_cons_none h1, List.filterMap_cons_none h2]
      exact Reps_pick r js
    · rw [List.filterMap_cons_some h1, List.filterMap_cons_some h2]
      exact .cons h3 (Reps_pick r js)
theorem Reps.step {K : PySem.W.Frag} {Z : Zx} {H : Hp} {xs : List V} {ws : List W} (r : Reps K Z H xs ws) (a c : Nat) : Reps K Z H (stepX xs a c) (stepX ws a c) := by
  unfold stepX
  rw [r.length]
  exact Reps_pick r _
section
variable {X : Cx} {Z : Zx} {E : XS} {e : Expr} {da : DE} {lo : Option Expr} {l : Option Nat} {c k : Nat} {p1 p3 pos : Pos}
theorem pl_step (hc : 0 < c) (he : PD X Z E e da) (hl : PO X lo (tL0 l)) : PLD X Z E (.Subscript e (.Slice lo none (some (.Constant (.int c) k p1)) p3) pos) (lStep (l.getD 0) c da) := by
  refine pe_weak (pe_stepL hc he hl) fun σ H Q q => ?_
  obtain ⟨H0, F, G, pv, st, kk, kx, wd, ss, hd, hk, hx⟩ := q
  refine tE_seq wd ss hx hd fun H1 G1 H1' st1 v r e1 wd1 ss1 rr k1 => ?_
  have k1 : (match r.val st1 with | some (W.lst ws) => kk (stepX ws (l.getD 0) c) st1 | _ => False) := k1
  cases q1 : r.val st1 with
  | none => rw [q1] at k1; exact k1.elim
  | some w =>
    rw [q1] at k1
    cases w with
    | lst ws =>
      obtain ⟨p, xs, rfl, h1, rs⟩ := (rr.peek ss1 wd1 q1).lst_of wd1.ex
      exact ⟨p, xs, rfl, .of h1, fun p' hp => hk _ _ _ _ _ _ _ e1 (wd1.hand hp) (wd1.free hp).2.1 ss1 (rs.step _ _) k1⟩
    | _ => exact k1.elim
theorem pl_step0 {c k : Nat} {p1 p3 pos : Pos} (hc : 0 < c) (he : PD X Z E e da) : PLD X Z E (.Subscript e (.Slice none none (some (.Constant (.int (c : Int)) k p1)) p3) pos) (lStep 0 c da) := pl_step (l := none) hc he po_no
theorem pl_step1 {a j c k : Nat} {p0 p1 p3 pos : Pos} (hc : 0 < c) (he : PD X Z E e da) : PLD X Z E (.Subscript e (.Slice (some (.Constant (.int (a : Int)) j p0)) none (some (.Constant (.int (c : Int)) k p1)) p3) pos) (lStep a c da) := pl_step (l := some a) hc he po_lit
end
end Y
/-! x(lambda: e), told so that all but one table and one new code object stay -/
namespace QL
open PySem PySem.Spec PyProof.Rows L2 LamX
/-- what a table tells: code objects of the name q that are known -/
def Told (H : Hp) (Kn : Addr → Prop) (q : Str) (ps : Array Value) : Prop :=
  TriplesOk ps.toList ∧ ∀ (pos : Pos) (cv : Value), codeAmong pos ps.toList = some cv → ∃ c, cv = .ref c ∧ H c = some (CodeO c q) ∧ Kn c
/-- behind the making of a lambda: nothing new, or one new code object c' and the table at P grown -/
def Made (H : Hp) (P : Addr) (q : Str) (Kn : Addr → Prop) (c' : Addr) (H1 : Hp) : Prop :=
  (H1 = H ∧ Kn c' ∧ H c' = some (CodeO c' q)) ∨ ∃ ps more : Array Value, H P = some (.tbl ps) ∧ H c' = none ∧ H1 = upd (upd H P (.tbl (ps ++ more))) c' (CodeO c' q) ∧ TriplesOk (ps ++ more).toList ∧
    ∀ (pos : Pos) (cv : Value), codeAmong pos (ps ++ more).toList = some cv → codeAmong pos ps.toList = some cv ∨ cv = .ref c'
section
variable {X : Cx} {pins : List (Addr × Obj)} {σ : L2.St} {H HZ : Hp} {s s1 : Shared}
theorem make3 {Kn : Addr → Prop} {c P : Addr} {params : Arguments} {body : Expr} {scope : Scope} {pos : Pos} {E : Value → Shared → Prop} {Q : Value → Shared → Prop} {ps : Array Value} (I : Inv X pins σ H s) (TB : TabB X.base X.mg c P) (hcode : X.env.code = .ref c)
    (hP : H P = some (.tbl ps)) (hT : Told H Kn (X.env.qual ++ "<lambda>") ps) (hdef : defaultsOf params X.env = ([], [])) (hfree : ∀ y ∈ scope.names, y.2 = .free → ∃ c, X.env.cells.lookup y.1 = some c)
    (h : ∀ (f c' : Addr) (pm ctv : Value) (H1 : Hp) (s' : Shared), Inv X pins σ H1 s' → Made H P (X.env.qual ++ "<lambda>") Kn c' H1 → H1 c' = some (CodeO c' (X.env.qual ++ "<lambda>")) →
      s'.heap.get? f = some (PySem.W.kla_obj "<lambda>" (X.env.qual ++ "<lambda>") params body scope (cloFrom X.env.cells scope.names []) pm c' ctv) → H1 f = none → f ∉ frs X.stack → Q (.ref f) s') :
    wpAny (model X.prog X.w) X.A (eval (.Lambda params body scope pos) X.env) Q E s := by
  obtain ⟨ht, ha⟩ := hT
  refine PySem.W.kla_eval hdef ?_
  have bP : s.heap.BuiltinsAt X.mg P := TB.bm.keeps I.bk
  have hP' : s.heap.get? P = some { cls := .none, data := .fields ps } := I.hok P _ hP
  have nofr : ∀ f, s.heap.objs.size ≤ f → f ∉ frs X.stack := fun f hf z => by
    rcases List.mem_cons.mp (I.stkSub _ z) with e | e
    · have h1 := I.lt
      rw [← e] at h1
      exact Nat.lt_irrefl _ (Nat.lt_of_lt_of_le h1 hf)
    · exact I.nofs hf e
  cases hc : codeAmong pos ps.toList with
  | none =>
    refine PySem.W.kla_makeFunction (mg := X.mg) (c := c) (P := P) (ps := ps) (closure_ok hfree) I.ok.glob (I.mod.glob.keeps I.bk) hcode (TB.code.keeps I.bk) hP' ht hc TB.gP bP fun c' ctv h' tk hx hge hlt hrec htb => ?_
    obtain ⟨c2, oc, vs, t, e2, hoc, hd, hv⟩ := hrec
    cases e2
    have hsz : s.heap.objs.size ≤ h'.objs.size := Nat.le_trans hge (Nat.le_of_lt hlt)
    have nC : H c' = none := I.hok.fresh hge
    have I1 := inv_table (t' := tk) (more := #[rawInt pos.line, rawInt pos.col, .ref c']) (h' := h'.push (PySem.W.kla_obj "<lambda>" (X.env.qual ++ "<lambda>") params body scope (cloFrom X.env.cells scope.names []) ((X.mg "__name__").getD .none) c' ctv)) I hP
      (fun b o hb e => Heap.get?_push_of_some _ (hx b o hb e)) (Heap.get?_push_of_some _ htb) hge ⟨oc, vs, t, Heap.get?_push_of_some _ hoc, hd, hv⟩
    have eL : (ps ++ #[rawInt pos.line, rawInt pos.col, .ref c']).toList = ps.toList ++ [rawInt pos.line, rawInt pos.col, .ref c'] := by simp
    refine h h'.objs.size c' ((X.mg "__name__").getD .none) ctv _ _ I1 (.inr ⟨ps, _, hP, nC, rfl, by rw [eL]; exact PySem.TriplesOk_snoc _ _ _ _ ht, fun p' cv hcv => ?_⟩) upd_same (Heap.get?_push_size _ rfl) ?_ (nofr _ hsz)
    · rw [eL] at hcv
      exact among_app _ ht hcv
    · have n1 : h'.objs.size ≠ c' := Nat.ne_of_gt hlt
      have n2 : h'.objs.size ≠ P := Nat.ne_of_gt (Nat.lt_of_lt_of_le (Heap.lt_size hP') hsz)
      rw [upd_ne n1, upd_ne n2]
      exact I.hok.fresh hsz
  | some cv =>
    obtain ⟨c', e, hco, hk⟩ := ha pos cv hc
    subst e
    refine PySem.W.kla_makeFunctionHit (mg := X.mg) (c := c) (P := P) (ps := ps) (closure_ok hfree) I.ok.glob (I.mod.glob.keeps I.bk) hcode (TB.code.keeps I.bk) hP' ht hc bP fun ctv h' tk hx hsz => ?_
    have I1 : Inv X pins σ H { s with heap := h'.push (PySem.W.kla_obj "<lambda>" (X.env.qual ++ "<lambda>") params body scope (cloFrom X.env.cells scope.names []) ((X.mg "__name__").getD .none) c' ctv), toks := tk } := I.kept fun b o e => Heap.get?_push_of_some _ (hx b o e)
    exact h h'.objs.size c' ((X.mg "__name__").getD .none) ctv H _ I1 (.inl ⟨rfl, hk, hco⟩) hco (Heap.get?_push_size _ rfl) (I.hok.fresh hsz) (nofr _ hsz)
/-- x(), in the def that got the lambda; what is wished of an error may ask for that def's variables -/
theorem act3 {CXg : CXT} {Eg : XK} {Ng : List Str} {qg : Str} {sg : Scope} {g f c' : Addr} {cdg pm ctv : Value} {params : Arguments} {body : Expr} {scope : Scope} {k i : Nat} {a : Str} {pn : List (Addr × Obj)} {xe : Value → Shared → Prop} {W : WX} {t : XK → TE} {p1 p2 : Pos}
    (I : Inv X pins σ H s) (L : LamS X.env.scope scope) (hf : s.heap.get? f = some (PySem.W.kla_obj "<lambda>" (X.env.qual ++ "<lambda>") params body scope (cloFrom X.env.cells scope.names []) pm c' ctv)) (hfn : H f = none) (hfr : f ∉ frs X.stack)
    (hbind : bindArgs (PySem.W.kla_fn "<lambda>" (X.env.qual ++ "<lambda>") params body scope (cloFrom X.env.cells scope.names []) pm (.ref c') ctv) ⟨[], []⟩ = pure [])
    (tk : Takes ((cxOf CXg X.prog X.w X.K X.mg X.base Ng qg sg g cdg X.A X.stack s H Eg).tr pn xe) W) (hr : Room (k + 1) (X.A.deeper (envOfC qg sg s.heap.objs.size g cdg)))
    (hbody : ∀ (A : Around) (outer : List Env) (s : Shared) (H : Hp) (E : XK), Room k (A.deeper (lamEnv X scope s.heap.objs.size f c')) → PE (lamCx X A outer s H E scope f c') body (t E))
    (hN : Ng[i]? = some a) (hv : Vis sg a) (hd : (a == ("__debug__" : Str)) = false := by decide) (hcd : (a == ("__classdict__" : Str)) = false := by decide) :
    PE ((cxOf CXg X.prog X.w X.K X.mg X.base Ng qg sg g cdg X.A X.stack s H Eg).tr pn xe) (.Call (.Name a p1) [] [] p2)
      (fun σZ HZ Q => σZ[i]? = some (some (.ref f)) ∧ HZ c' = some (CodeO c' (X.env.qual ++ "<lambda>")) ∧ t (fun cls d H => W cls d σZ H) σ HZ Q) := by
  refine ⟨fun pinsZ sZ σZ HZ Q IZ h => ?_⟩
  obtain ⟨hs, hc, ht⟩ := h
  refine wpAny_Call_Name_kw (thn ((pe_var (pos := p1) (i := i) hN hv hd hcd).run pinsZ sZ σZ HZ (fun v H1 => v = .ref f ∧ H1 = HZ) IZ ⟨.ref f, hs, rfl, rfl⟩) fun u s1 ⟨v, H1, I1, r1, q1⟩ => ?_)
  obtain ⟨ev, eH⟩ := q1
  subst ev
  rw [eH] at I1
  obtain rfl : u = Value.ref f := r1
  have of1 : s1.heap.get? f = some (PySem.W.kla_obj "<lambda>" (X.env.qual ++ "<lambda>") params body scope (cloFrom X.env.cells scope.names []) pm c' ctv) := I1.base.keep f _ hf hfn hfr (fun z => nomatch (show f ∈ ([] : List Addr) from z))
  refine PySem.W.callWith_F0 ⟨_, _, _, _, of1⟩ ?_
  have un : Un (frs X.stack) [] H HZ s.heap s1.heap := I1.base
  obtain ⟨⟨oc, vs, tt, hoc, hdc, hvc⟩, _, _⟩ := I1.hok c' _ hc
  have rc : codeAny (model X.prog X.w) (X.A.deeper (envOfC qg sg s.heap.objs.size g cdg)) (.call (.ref f) ⟨[], []⟩) (CR (L2.CX X.prog X.w) (envOfC qg sg s.heap.objs.size g cdg :: X.stack) X.prog X.w HZ s1 Q (fun cls d H => W cls d σZ H)) s1 := by
    refine PySem.W.kla_callFunE hr.depth of1 rfl L.co L.gen rfl ⟨c', oc, vs, tt, rfl, hoc, hdc, hvc⟩ ?_
    rw [hbind]
    refine wpAny_pure (wpAny_newFunctionEnv (fun y hy => (L.own y hy).2) (fun y hy => absurd hy (by simp)) (fun h₁ hns hsb => ⟨I1.nolimit.fresh _ hsb, ?_⟩) L.kind)
    show codeAny _ _ (.expr body (lamEnv X scope s1.heap.objs.size f c')) _ _
    have kp : ∀ b o, s1.heap.get? b = some o → h₁.get? b = some o := fun b o e => hsb.extBut b o (Nat.ne_of_lt (Heap.lt_size e)) (Heap.get?_push_of_some _ e)
    have J : Inv (lamCx X (X.A.deeper (envOfC qg sg s.heap.objs.size g cdg)) (envOfC qg sg s.heap.objs.size g cdg :: X.stack) s1 HZ (fun cls d H => W cls d σZ H) scope f c') [] σ HZ { s1 with heap := h₁, toks := s1.toks + ([] : List (Str × Value)).length } :=
      lam_start2 I L I1.env0 hr.hd un hns kp
    refine PySem.W.kla_codeExpr (wpAny_mono ((hbody _ _ s1 HZ _ (hr.deeper _)).run [] _ _ HZ Q J ht) (fun v s' hq => ?_) fun e s' hq => hq)
    obtain ⟨w', H', J', rv, q⟩ := hq
    exact ⟨w', H', J'.os, J'.bare, J'.base, J'.hok, rv, q⟩
  refine wpAny_call (codeAny_mono rc fun r s' hq => ?_)
  cases r with
  | error e => exact tk e s' (XE.of_call I1 (fun cls d H' h => h) hq)
  | ok fl =>
    cases fl with
    | ret u => exact I1.after hq
    | next => exact False.elim hq
    | brk => exact False.elim hq
    | cont => exact False.elim hq
/-- the def that calls what it got; TT: what it makes of the lambda's reading -/
def Gives3 (X : Cx) (Ng : List Str) (x : Str) (sg : Scope) (g : Addr) (cdg : Value) (bg : List Stmt) (a : Str) (q : Str) (TT : (XK → Hp → VK → Prop) → Addr → Addr → Hp → VK → Prop) : Prop :=
  ∀ (f c' : Addr) (s : Shared) (H : Hp) (Q : VK) (tl : XK → Hp → VK → Prop), Room 1 (X.A.deeper (envOfC x sg s.heap.objs.size g cdg)) →
    (∀ (W : WX) (pn : List (Addr × Obj)) (xe : Value → Shared → Prop) (p1 p2 : Pos), Takes ((cxOf C8.CX0 X.prog X.w X.K X.mg X.base Ng x sg g cdg X.A X.stack s H C8.E0).tr pn xe) W →
      PE ((cxOf C8.CX0 X.prog X.w X.K X.mg X.base Ng x sg g cdg X.A X.stack s H C8.E0).tr pn xe) (.Call (.Name a p1) [] [] p2) (fun σZ HZ Q => σZ[0]? = some (some (.ref f)) ∧ HZ c' = some (CodeO c' q) ∧ tl (fun cls d H => W cls d σZ H) HZ Q)) →
    TT tl f c' H Q →
    ∃ t, PSs (cxOf C8.CX0 X.prog X.w X.K X.mg X.base Ng x sg g cdg X.A X.stack s H C8.E0).nox bg t ∧ t { nx := fun _ H' => Q .non H', rt := Q } (L2.start Ng [.ref f]) H
def tLam3 (P : Addr) (q : Str) (TT : (XK → Hp → VK → Prop) → Addr → Addr → Hp → VK → Prop) (t : XK → TE) : TE := fun σ H Q => ∃ (ps : Array Value) (Kn : Addr → Prop), H P = some (.tbl ps) ∧ Told H Kn q ps ∧
  ∀ f c' H1, Made H P q Kn c' H1 → H1 c' = some (CodeO c' q) → TT (fun E H' Q' => t E σ H' Q') f c' H1 Q
end
section
variable {X : Cx}
/-- x(lambda: body) -/
theorem pe_lam3 {TT : (XK → Hp → VK → Prop) → Addr → Addr → Hp → VK → Prop} {x a : Str} {g c P : Addr} {k : Nat} {pg : Arguments} {bg : List Stmt} {sg : Scope} {dV kV doc pm cdv ct oc : Value} {an od : Option Addr} {osl : Array (Option Value)} {Ng : List Str}
    {params : Arguments} {body : Expr} {scope : Scope} {t : XK → TE} {p lpos pos : Pos} (hg : Gl X x) (hm : X.mg x = some (.ref g)) (hk : PySem.W.keepIn X.K (.ref g) = true)
    (lk : X.K.lookup g = some ⟨oc, od, .func (PySem.W.fnOf x x pg bg sg dV kV doc pm an cdv ct), osl⟩) (hcg : PySem.W.codeIn X.K cdv x = true) (hb : L2.Binds X.K (PySem.W.fnOf x x pg bg sg dV kV doc pm an cdv ct) [a] []) (Sg : FnScope Ng [a] sg) (hNg : Ng[0]? = some a) (hva : Vis sg a)
    (hG : Gives3 X Ng x sg g cdv bg a (X.env.qual ++ "<lambda>") TT)
    (TB : TabB X.base X.mg c P) (hcode : X.env.code = .ref c) (hr : Room (k + 2) X.A) (L : LamS X.env.scope scope) (hdef : defaultsOf params X.env = ([], []))
    (hbind : ∀ (q : Str) (cl : List (Str × Addr)) (pm cv ctv : Value), bindArgs (PySem.W.kla_fn "<lambda>" q params body scope cl pm cv ctv) ⟨[], []⟩ = pure [])
    (hbody : ∀ (A : Around) (outer : List Env) (s : Shared) (H : Hp) (E : XK) (f c' : Addr), Room k (A.deeper (lamEnv X scope s.heap.objs.size f c')) → PE (lamCx X A outer s H E scope f c') body (t E)) (hr1 : ∀ A, Room (k + 1) A → Room 1 A)
    (hdb : (x == ("__debug__" : Str)) = false := by decide) (hd : (a == ("__debug__" : Str)) = false := by decide) (hcd : (a == ("__classdict__" : Str)) = false := by decide) :
    PE X (.Call (.Name x p) [.Lambda params body scope lpos] [] pos) (tLam3 P (X.env.qual ++ "<lambda>") TT t) := by
  refine ⟨fun pins s σ H Q I h => ?_⟩
  obtain ⟨ps, Kn, hP, hT, h⟩ := h
  refine wpAny_Call_Name_kw (ld_glob I hg hm ?_ hdb)
  refine PySem.W.callWith_K (h₀ := X.base) I.ok.mod.kin hk ?_ (by rfl) (by rfl)
  show wpAny _ _ (spliced ((false, eval (.Lambda params body scope lpos) X.env) :: backTo pos (starEach [] X.env))) _ _ s
  refine Calls.spliced_cons (make3 I TB hcode hP hT hdef (L.has I.ok) fun f c' pm' ctv H1 s' I1 hM hco hf hfn hfr => ?_)
  refine Calls.spliced_nil ⟨I1.kIn, ?_⟩
  have rc : codeAny (model X.prog X.w) X.A (.call (.ref g) ⟨[.ref f], []⟩) (CR C8.CX0 X.stack X.prog X.w H1 s' Q C8.E0) s' := by
    refine run_ofS (N := Ng) (ps := [a]) (us := [.ref f]) (vs := [.ref f]) lk hcg Sg hr I1.env0 (hb s' [.ref f] I1.kIn rfl) (.cons rfl .nil) rfl fun hr' => ?_
    obtain ⟨t', ht', hq'⟩ := hG f c' s' H1 Q (fun E H' Q' => t E σ H' Q') (hr1 _ hr') (fun W pn xe p1 p2 tk => act3 (i := 0) I1 L hf hfn hfr (hbind _ _ _ _ _) tk hr' (fun A outer s H E hr2 => hbody A outer s H E f c' hr2) hNg hva hd hcd) (h f c' H1 hM hco)
    exact ⟨t', ht'.nox, hq'⟩
  refine wpAny_call (codeAny_mono rc fun r s2 hq => ?_)
  cases r with
  | error e => exact (show False from hq).elim
  | ok fl =>
    cases fl with
    | ret u => exact I1.after hq
    | next => exact False.elim hq
    | brk => exact False.elim hq
    | cont => exact False.elim hq
end
end QL
namespace Y
open PySem L2
open PySem.Spec PyProof.Rows
open Evl (Ex)
open LamX QL

/-! ### x(lambda: e): the caller waits as a slot of the callee, the lambda's body is read there -/
/-- the frozen slots alone -/
def frzS : Sl → Sl
  | .lo (.fz w) => .lo (.fz w)
  | .mp k (.fz w) => .mp k (.fz w)
  | _ => .un
def onlyF : S → S
  | [] => []
  | s :: st => frzS s :: onlyF st
theorem sts_only {K : PySem.W.Frag} {Z : Zx} {H0 : Hp} {pv : List V} : ∀ {σ : L2.St} {st : S} {G : Fp}, Sts K Z H0 pv σ st G → Sts K Z H0 pv σ (onlyF st) []
  | _, _, _, .nil => .nil
  | _, _, _, .un h => .un (sts_only h)
  | _, _, _, .lo (t := t) r h => by
    cases t with
    | fz w => cases r with | fz r => exact .lo (G1 := []) (G2 := []) (.fz r) (sts_only h)
    | _ => exact .un (sts_only h)
  | _, _, _, .mp (t := t) e r h => by
    cases t with
    | fz w => cases r with | fz r => exact .mp (G1 := []) (G2 := []) e (.fz r) (sts_only h)
    | _ => exact .un (sts_only h)
  | _, _, _, .fr _ _ h => .un (sts_only h)
theorem frz_frz (s : Sl) : frzS (frzS s) = frzS s := by
  cases s with
  | lo t => cases t <;> rfl
  | mp k t => cases t <;> rfl
  | _ => rfl
theorem only_only : ∀ st : S, onlyF (onlyF st) = onlyF st
  | [] => rfl
  | s :: st => by
    show frzS (frzS s) :: onlyF (onlyF st) = _
    rw [frz_frz, only_only st] <;> rfl
/-- the lambda's body, read in the slots of the caller that waits; it may change them -/
def dAct (f c : Addr) (q : Str) (σ : L2.St) (pv : List V) (d : DE) : DE := fun stc k x => ∃ st, at' stc 0 = .fr f c q σ pv st ∧
  d st (fun r st2 => match r with | .w w => k (.w w) (put stc 0 (.fr f c q σ pv st2)) | _ => False) (fun e st2 => x e (put stc 0 (.fr f c q σ pv st2)))
def lamEnds (f c : Addr) (q : Str) (σ : L2.St) (pv : List V) (k : R → S → Prop) : DEnds where
  rt := fun t st' => ∃ w st2, t.frz = some w ∧ at' st' 0 = .fr f c q σ pv st2 ∧ k (.w w) st2
  nx := fun st' => ∃ st2, at' st' 0 = .fr f c q σ pv st2 ∧ k (.w .non) st2
def dLam (B : DE → DS) (q : Str) (n : Nat) (d : DE) : DE := fun st k _ => ∀ f c σ pv, B (dAct f c q σ pv d) (lamEnds f c q σ pv k) (.fr f c q σ pv st :: uns n)
/-- what the layer makes of the lambda's reading -/
def TT3 (K : PySem.W.Frag) (Z : Zx) (Ng : List Str) (B : DE → DS) (q : Str) (tl : XK → Hp → VK → Prop) (f c : Addr) (H : Hp) (Q : VK) : Prop :=
  ∃ (σ : L2.St) (pv : List V) (d : DE), (tl = fun E H' Q' => tE K Z (fun cls dx _ H => E cls dx H) d σ H' Q') ∧ tS K Z E0s (B (dAct f c q σ pv d)) { nx := fun _ H' => Q .non H', rt := Q } (L2.start Ng [.ref f]) H
section
variable {K : PySem.W.Frag} {Z : Zx}
theorem permM {A B C : Fp} : (A ++ B ++ C).Perm (B ++ (A ++ C)) := by
  rw [← List.append_assoc]
  exact List.Perm.append_right _ List.perm_append_comm
theorem act_ok {W : XS} {f c : Addr} {q : Str} {σ : L2.St} {pv : List V} {d : DE} {σZ : L2.St} {HZ : Hp} {Q : VK} (h : tE K Z W (dAct f c q σ pv d) σZ HZ Q) :
    σZ[0]? = some (some (.ref f)) ∧ HZ c = some (CodeO c q) ∧ tE K Z (fun cls dx _ H => W cls dx σZ H) d σ HZ Q := by
  obtain ⟨H0, F, G, pvc, stc, k, kx, wd, ss, ⟨st, hat, hd⟩, hk, hx⟩ := h
  obtain ⟨G1, Ga, Gb, hs, hc, sf, rfl, back⟩ := ss.fr_at hat
  have wd' : Wd H0 F (G1 ++ (Ga ++ Gb)) HZ := wd.perm permM.symm
  refine ⟨hs, wd.ex _ _ hc, H0, addF F (Ga ++ Gb), G1, pv, st, _, _, wd'.toCall, sf, hd, fun H0' G' H' st' v r e w2 s2 rr kk => ?_, hx.tabs.add wd', fun H0' G' H' st' cls dx x e w2 s2 rx kk => ?_⟩
  · cases r with
    | pk _ => exact kk.elim
    | w w =>
      cases rr with
      | w rv => exact hk _ _ _ _ _ _ e ((wd'.ofCall w2).perm permM) (back H0' st' G' e s2) (.w rv) kk
  · exact hx _ _ _ _ _ _ _ e ((wd'.ofCall w2).perm permM) (back H0' st' G' e s2) rx kk
theorem made_ok {H0 F H : Hp} {G : Fp} {P c' : Addr} {q : Str} {H1 : Hp} (wd : Wd H0 F G H) (hF : F P = some (tabO q)) (m : Made H P q (fun c => H0 c = some (CodeO c q)) c' H1) : ∃ H0', Ex H0 H0' ∧ Wd H0' F G H1 ∧ H0' c' = some (CodeO c' q) := by
  rcases m with ⟨rfl, k, _⟩ | ⟨ps, more, hP, hc, rfl, ht, ha⟩
  · exact ⟨H0, Ex.refl _, wd, k⟩
  · have n0 : H0 c' = none := by
      cases z : H0 c' with
      | none => rfl
      | some u => rw [wd.ex _ _ z] at hc; cases hc
    have nF : F c' = none := wd.fnone hc
    have ne0 : ∀ a o, H0 a = some o → a ≠ P := fun a o h e => by have := wd.d0F a o h; rw [e, hF] at this; cases this
    have neC : ∀ a o, H a = some o → a ≠ c' := fun a o h e => by rw [e, hc] at h; cases h
    have cP : c' ≠ P := fun e => by rw [e, hF] at nF; cases nF
    refine ⟨upd H0 c' (CodeO c' q), .new n0, ⟨fun a o h => ?_, fun a o h n => ?_, fun p hp => ?_, wd.nd, fun p hp => ?_, wd.dF, fun a o h => ?_, fun a o t h n => ?_, wd.tn⟩, upd_same⟩
    · by_cases z : a = c'
      · subst z; rw [upd_same] at h ⊢; exact h
      · rw [upd_ne z] at h ⊢
        rw [upd_ne (ne0 a o h)]
        exact wd.ex a o h
    · have h1 := wd.fr a o h n
      rw [upd_ne (neC a o h1), upd_ne (fun e => by rw [e, hF] at h; cases h; cases n)]
      exact h1
    · have h1 := wd.ow p hp
      rw [upd_ne (neC _ _ h1), upd_ne (fun e => by have := wd.dF p hp; rw [e, hF] at this; cases this)]
      exact h1
    · rw [upd_ne (neC _ _ (wd.ow p hp))]; exact wd.d0 p hp
    · by_cases z : a = c'
      · subst z; exact nF
      · rw [upd_ne z] at h; exact wd.d0F a o h
    · by_cases z : a = P
      · subst z
        rw [hF] at h; cases h
        have n' : q = t := by cases n; rfl
        subst n'
        refine ⟨ps ++ more, by rw [upd_ne cP.symm, upd_same], ht, fun pos cv hcv => ?_⟩
        rcases ha pos cv hcv with h1 | h1
        · obtain ⟨ps', e1, _, e3⟩ := wd.tb a _ q hF rfl
          rw [hP] at e1; cases e1
          obtain ⟨c, e4, e5⟩ := e3 pos cv h1
          exact ⟨c, e4, by rw [upd_ne (fun e => by rw [e, n0] at e5; cases e5)]; exact e5⟩
        · exact ⟨c', h1, upd_same⟩
      · obtain ⟨ps', e1, e2, e3⟩ := wd.tb a o t h n
        exact TabQ.up (H := H) ⟨ps', e1, e2, e3⟩ (.new n0) fun o' h' => by rw [upd_ne (neC a o' h'), upd_ne z]; exact h'
theorem start_one (Ng : List Str) (n : Nat) (h : Ng.length = n + 1) (v : V) : L2.start Ng [v] = some v :: List.replicate n none := by
  unfold L2.start
  simp [h]
theorem lam_ok {E : XS} {B : DE → DS} {P : Addr} {q : Str} {n : Nat} {d : DE} {Ng : List Str} {σ : L2.St} {H : Hp} {Q : VK} (hZ : (P, q) ∈ Z.tabs) (hn : Ng.length = n + 1) (h : tE K Z E (dLam B q n d) σ H Q) :
    tLam3 P q (TT3 K Z Ng B q) (fun E => tE K Z (fun cls dx _ H => E cls dx H) d) σ H Q := by
  obtain ⟨H0, F, G, pv, st, k, kx, wd, ss, hd, hk, hx⟩ := h
  have hF := hx.tabs _ hZ
  obtain ⟨ps, hP, ht, ha⟩ := wd.tb P _ q hF rfl
  refine ⟨ps, fun c => H0 c = some (CodeO c q), hP, ⟨ht, fun pos cv hc => ?_⟩, fun f c' H1 hm hco => ?_⟩
  · obtain ⟨c, e1, e2⟩ := ha pos cv hc
    exact ⟨c, e1, wd.ex _ _ e2, e2⟩
  · obtain ⟨H0', e0, wd1, hc0⟩ := made_ok wd hF hm
    refine ⟨σ, pv, d, rfl, ?_⟩
    rw [start_one Ng n hn]
    refine ⟨H0', F, G, [], _, _, wd1, Sts.cast (.fr (G1 := G) (G2 := []) hc0 (ss.mono e0) (sts_uns 0 n)) (List.append_nil G), hd f c' σ pv, ⟨fun H2 G2 H2' σ' st' e w2 s2 kk => ?_, fun H2 Gv G2 H2' σ' st' v t e w2 rt s2 kk => ?_, fun _ _ _ _ _ _ _ _ kk => kk.elim, fun _ _ _ _ _ _ _ _ kk => kk.elim, hx.tabs, fun _ _ _ _ _ _ _ _ _ _ _ _ kk => kk.elim⟩⟩
    · obtain ⟨st2, hat, kk⟩ := kk
      obtain ⟨G1, Ga, Gb, _, _, sf, rfl, _⟩ := s2.fr_at hat
      exact hk _ _ _ _ _ _ (e0.trans e) (w2.sub (Gd := Ga ++ Gb) permM) sf (.w .non) kk
    · obtain ⟨w, st2, q1, hat, kk⟩ := kk
      obtain ⟨G1, Ga, Gb, _, _, sf, rfl, _⟩ := s2.fr_at hat
      obtain ⟨H3, e3, w4, r3⟩ := freeze w2 rt q1
      exact hk _ _ _ _ _ _ (e0.trans (e.trans e3)) (w4.sub (Gd := Ga ++ Gb) permM) (sf.mono e3) (.w r3) kk
end
section
variable {X : Cx} {Z : Zx} {E : XS}
/-- the def that calls what it got -/
theorem gives_of {Ng : List Str} {x : Str} {sg : Scope} {g : Addr} {cdg : Value} {bg : List Stmt} {a : Str} {q : Str} {B : DE → DS}
    (hB : ∀ (f c : Addr) (σ : L2.St) (pv : List V) (d : DE) (s : Shared) (H : Hp), Room 1 (X.A.deeper (envOfC x sg s.heap.objs.size g cdg)) →
      (∀ (W : XS) (pn : List (Addr × Obj)) (xe : Value → Shared → Prop) (p1 p2 : Pos), Takes ((cxOf C8.CX0 X.prog X.w X.K X.mg X.base Ng x sg g cdg X.A X.stack s H C8.E0).tr pn xe) (fun cls d σ H => W cls d σ H) →
        PD ((cxOf C8.CX0 X.prog X.w X.K X.mg X.base Ng x sg g cdg X.A X.stack s H C8.E0).tr pn xe) Z W (.Call (.Name a p1) [] [] p2) (dAct f c q σ pv d)) →
      PZs (cxOf C8.CX0 X.prog X.w X.K X.mg X.base Ng x sg g cdg X.A X.stack s H C8.E0).nox Z E0s bg (B (dAct f c q σ pv d))) : Gives3 X Ng x sg g cdg bg a q (TT3 X.K Z Ng B q) := by
  intro f c' s H Q tl hr hact htt
  obtain ⟨σ, pv, d, rfl, hS⟩ := htt
  exact ⟨_, hB f c' σ pv d s H hr fun W pn xe p1 p2 tk => pe_weak (hact _ pn xe p1 p2 tk) fun σZ HZ Q' z => act_ok z, hS⟩
/-- x(lambda: body) -/
theorem pd_lam {B : DE → DS} {x a : Str} {g c P : Addr} {k n : Nat} {pg : Arguments} {bg : List Stmt} {sg : Scope} {dV kV doc pm cdv ct oc : Value} {an od : Option Addr} {osl : Array (Option Value)} {Ng : List Str}
    {params : Arguments} {body : Expr} {scope : Scope} {d : DE} {q : Str} {p lpos pos : Pos} (hg : Gl X x) (hm : X.mg x = some (.ref g)) (hk : PySem.W.keepIn X.K (.ref g) = true)
    (lk : X.K.lookup g = some ⟨oc, od, .func (PySem.W.fnOf x x pg bg sg dV kV doc pm an cdv ct), osl⟩) (hcg : PySem.W.codeIn X.K cdv x = true) (hb : L2.Binds X.K (PySem.W.fnOf x x pg bg sg dV kV doc pm an cdv ct) [a] []) (Sg : FnScope Ng [a] sg) (hNg : Ng[0]? = some a) (hva : Vis sg a)
    (hq : X.env.qual ++ "<lambda>" = q) (hG : Gives3 X Ng x sg g cdv bg a q (TT3 X.K Z Ng B q))
    (TB : TabB X.base X.mg c P) (hcode : X.env.code = .ref c) (hr : Room (k + 2) X.A) (L : LamS X.env.scope scope) (hdef : defaultsOf params X.env = ([], []))
    (hbind : ∀ (q : Str) (cl : List (Str × Addr)) (pm cv ctv : Value), bindArgs (PySem.W.kla_fn "<lambda>" q params body scope cl pm cv ctv) ⟨[], []⟩ = pure [])
    (hZ : (P, q) ∈ Z.tabs) (hn : Ng.length = n + 1)
    (hbody : ∀ (A : Around) (outer : List Env) (s : Shared) (H : Hp) (E : XK) (f c' : Addr), Room k (A.deeper (lamEnv X scope s.heap.objs.size f c')) → PD (lamCx X A outer s H E scope f c') Z (fun cls dx _ H => E cls dx H) body d) (hr1 : ∀ A, Room (k + 1) A → Room 1 A)
    (hdb : (x == ("__debug__" : Str)) = false := by decide) (hd : (a == ("__debug__" : Str)) = false := by decide) (hcd : (a == ("__classdict__" : Str)) = false := by decide) :
    PD X Z E (.Call (.Name x p) [.Lambda params body scope lpos] [] pos) (dLam B q n d) := by
  subst hq
  exact pe_weak (pe_lam3 hg hm hk lk hcg hb Sg hNg hva hG TB hcode hr L hdef hbind (t := fun E => tE X.K Z (fun cls dx _ H => E cls dx H) d) hbody hr1 hdb hd hcd) fun σ H Q z => lam_ok hZ hn z
end
end Y
namespace Y
open PySem L2
open PySem.Spec PyProof.Rows
open Evl (Ex)
open LamX QL
open He (DefD FnW frG asD ga)

/-! ### a law's end, with tables of code objects -/
/-- the code object and the table of the def x -/
def tabAt (K : PySem.W.Frag) (x : Str) : Addr × Addr := (PySem.W.tabIn K x).getD (0, 0)
/-- ts: the defs that make lambdas, with the lambdas' names -/
def zxT (hs xs : List (Nat × Str)) (ts : List (Str × Str)) (K : PySem.W.Frag) : Zx := ⟨(zxL hs xs K).cls, (zxL hs xs K).has, ts.map fun p => ((tabAt K p.1).2, p.2)⟩
def csT (ts : List (Str × Str)) (K : PySem.W.Frag) : List (Addr × Addr) := ts.map fun p => tabAt K p.1
section
variable {K : PySem.W.Frag}
theorem ClsOk.ts {hs xs : List (Nat × Str)} {ts : List (Str × Str)} (h : ClsOk K (zxL hs xs K)) : ClsOk K (zxT hs xs ts K) := ⟨h.1, h.2, h.3, h.4⟩
theorem ClsOk.z0 {Z : Zx} (h : ClsOk K Z) : ClsOk K Z.z0 := ⟨h.1, h.2, h.3, h.4⟩
theorem IsOk.ts {hs xs : List (Nat × Str)} {ts : List (Str × Str)} {C : Ty0} (h : IsOk K (zxL hs xs K) C) : IsOk K (zxT hs xs ts K) C := by
  cases C <;> exact h
theorem IsOk.z0 {Z : Zx} {C : Ty0} (h : IsOk K Z C) : IsOk K Z.z0 C := by
  cases C <;> exact h
/-- the checks -/
def tabB (ts : List (Str × Str)) (K : PySem.W.Frag) : Bool := (ts.all fun p => decide (PySem.W.tabIn K p.1 = some (tabAt K p.1)) && (K.lookup (tabAt K p.1).2).isNone) && decide ((ts.map fun p => (tabAt K p.1).2).Nodup)
structure TabOkK (ts : List (Str × Str)) (K : PySem.W.Frag) : Prop where
  at_ : ∀ p ∈ ts, PySem.W.tabIn K p.1 = some (tabAt K p.1)
  no : ∀ p ∈ ts, K.lookup (tabAt K p.1).2 = none
  nd : (ts.map fun p => (tabAt K p.1).2).Nodup
theorem tabB_ok {ts : List (Str × Str)} (h : tabB ts K = true) : TabOkK ts K := by
  obtain ⟨h1, h2⟩ := He.ba h
  have h3 : ∀ p ∈ ts, PySem.W.tabIn K p.1 = some (tabAt K p.1) ∧ K.lookup (tabAt K p.1).2 = none := fun p hp => by
    have := List.all_eq_true.mp h1 p hp
    obtain ⟨a, b⟩ := He.ba this
    exact ⟨of_decide_eq_true a, Option.isNone_iff_eq_none.mp b⟩
  exact ⟨fun p hp => (h3 p hp).1, fun p hp => (h3 p hp).2, of_decide_eq_true h2⟩
def CodeK (K : PySem.W.Frag) (f c : Addr) : Prop := ∀ oc od fd osl, K.lookup f = some ⟨oc, od, .func fd, osl⟩ → fd.code = .ref c
def codeB (x : Str) (K : PySem.W.Frag) : Bool := match K.lookup (ga K x) with
  | some ⟨_, _, .func fd, _⟩ => decide (fd.code = .ref (tabAt K x).1)
  | _ => true
theorem codeB_ok {x : Str} (h : codeB x K = true) : CodeK K (ga K x) (tabAt K x).1 := fun oc od fd osl e => by
  unfold codeB at h
  rw [e] at h
  exact of_decide_eq_true h
/-- THE RULE for a def whose code object is known -/
theorem fn_okC {P : Program} {w : World} {Z : Zx} {mg : Str → Option Value} {base : Heap} {x qual : Str} {params : Arguments} {body : List Stmt} {scope : Scope} {dvs : List V} {kws : List (Str × V)} {f cc : Addr} {fd : FuncData} {N ps : List Str} {k m : Nat} {c : Ct} {d : DS} (F : FunD K x qual params body scope dvs kws f fd) (hcc : CodeK K f cc) (S : FnScope N ps scope) (hm : Meets c ps.length m d) (hn : N.length = ps.length + m)
    (hb : ∀ (A : Around) (outer : List Env) (s : Shared) (H : Hp) (E : XK), Room k (A.deeper (envOfC qual scope s.heap.objs.size f (.ref cc))) →
      PZs (cxOf (L2.CX P w) P w K mg base N qual scope f (.ref cc) A outer s H E) Z (fun cls dx _ H => E cls dx H) body d) : FnOk P w K mg base (L2.CX P w) (k + 1) f fd ps (spOf K Z c) := by
  obtain ⟨oc, od, dV, kV, doc, pm, an, cdv, ct, osl, rfl, lk, hcd, _, _⟩ := F.ex
  have e : cdv = .ref cc := hcc _ _ _ _ lk
  subst e
  exact fn_of lk hcd S (fun vs H Q E h => (body_ok hm hn h).1) fun A outer s H vs Q E hr h => ⟨_, hb A outer s H E hr, (body_ok hm hn h).2⟩
theorem nd_inj {α β : Type} {f : α → β} : ∀ {l : List α}, (l.map f).Nodup → ∀ {a b : α}, a ∈ l → b ∈ l → f a = f b → a = b
  | [], _, _, _, h, _, _ => by cases h
  | x :: l, nd, a, b, ha, hb, e => by
    rw [List.map_cons] at nd
    obtain ⟨n1, n2⟩ := List.nodup_cons.mp nd
    rcases List.mem_cons.mp ha with h1 | h1
    · rcases List.mem_cons.mp hb with h2 | h2
      · rw [h1, h2]
      · exact absurd (show f x ∈ l.map f from List.mem_map.mpr ⟨b, h2, by rw [← e, h1]⟩) n1
    · rcases List.mem_cons.mp hb with h2 | h2
      · exact absurd (show f x ∈ l.map f from List.mem_map.mpr ⟨a, h1, by rw [e, h2]⟩) n1
      · exact nd_inj n2 h1 h2 e
theorem law_spT {ts : List (Str × Str)} {Z : Zx} (ht : Z.tabs = ts.map fun p => ((tabAt K p.1).2, p.2)) (tk : TabOkK ts K) {H : Hp} {a : Addr} {ns : List Int} (hT : ∀ p ∈ csT ts K, H p.2 = some (.tbl #[])) (hl : ns.length ≤ 63) (h : SqL K H a (ns.map V.int)) : spOf K Z c_law [.ref a] H (fun v _ => v = .bl true) fun _ _ _ => False := by
  have hT' : ∀ p ∈ ts, H (tabAt K p.1).2 = some (.tbl #[]) := fun p hp => hT (tabAt K p.1) (List.mem_map.mpr ⟨p, hp, rfl⟩)
  let F : Hp := fun b => (ts.find? fun p => (tabAt K p.1).2 == b).map fun p => tabO p.2
  have F_some : ∀ b o, F b = some o → ∃ p ∈ ts, (tabAt K p.1).2 = b ∧ o = tabO p.2 := fun b o e => by
    obtain ⟨p, h1, h2⟩ := Option.map_eq_some_iff.mp e
    exact ⟨p, List.mem_of_find?_eq_some h1, by have := List.find?_some h1; exact beq_iff_eq.mp this, h2.symm⟩
  have F_at : ∀ p ∈ ts, F (tabAt K p.1).2 = some (tabO p.2) := fun p hp => by
    cases q : ts.find? (fun r => (tabAt K r.1).2 == (tabAt K p.1).2) with
    | none =>
      have := List.find?_eq_none.mp q p hp
      simp at this
    | some r =>
      have h1 := List.mem_of_find?_eq_some q
      have h2 : (tabAt K r.1).2 = (tabAt K p.1).2 := by have := List.find?_some q; exact beq_iff_eq.mp this
      have h3 : r = p := nd_inj tk.nd h1 hp h2
      show (ts.find? _).map _ = _
      rw [q, h3]; rfl
  let H0 : Hp := fun b => if (F b).isSome then none else H b
  have H0_of : ∀ b o, H0 b = some o → F b = none ∧ H b = some o := fun b o e => by
    by_cases z : (F b).isSome = true
    · have : H0 b = none := if_pos z
      rw [this] at e; cases e
    · have q : H0 b = H b := if_neg z
      rw [q] at e
      exact ⟨by cases r : F b with
        | none => rfl
        | some u => rw [r] at z; exact absurd rfl z, e⟩
  have keep : ∀ b o, H b = some o → o ≠ .tbl #[] → H0 b = some o := fun b o e ne => by
    have z : ¬ (F b).isSome = true := fun z => by
      obtain ⟨u, hu⟩ := Option.isSome_iff_exists.mp z
      obtain ⟨p, hp, e1, _⟩ := F_some b u hu
      have := hT' p hp
      rw [e1, e] at this
      exact ne (Option.some.inj this)
    exact (if_neg z).trans e
  have hS : SqL K H0 a (ns.map V.int) := by
    rcases h with (h | ⟨o, h⟩) | h
    · exact .inl (.inl (keep _ _ h (by intro z; cases z)))
    · exact .inl (.inr ⟨o, keep _ _ h (by intro z; cases z)⟩)
    · exact .inr h
  refine ⟨H0, F, [], [.fz (.scr ns)], fun t _ => t = .fz (.bl true), fun _ _ => False, ⟨fun b o e => (H0_of b o e).2, fun b o e n => ?_, fun q hq => (nomatch hq), List.nodup_nil, fun q hq => (nomatch hq), fun q hq => (nomatch hq), fun b o e => (H0_of b o e).1, fun b o q e n => ?_, fun q hq => (nomatch hq)⟩,
    .cons (G1 := []) (.fz (.scr hS)) .nil, ⟨ns, rfl, hl, rfl⟩, fun H0' Gv Ga' H' v' t ts' ex wd rt _ ht => ?_, fun _ _ _ _ _ _ _ _ _ _ _ h => h.elim, fun p hp => ?_⟩
  · obtain ⟨p, _, _, rfl⟩ := F_some b o e
    cases n
  · obtain ⟨p, hp, e1, rfl⟩ := F_some b o e
    refine ⟨#[], by rw [← e1]; exact hT' p hp, True.intro, fun pos cv hc => ?_⟩
    have z : codeAmong pos [] = some cv := hc
    simp [codeAmong] at z
  · subst ht
    cases rt with | fz rt => cases rt; rfl
  · rw [ht] at hp
    obtain ⟨r, hr, rfl⟩ := List.mem_map.mp hp
    exact F_at r hr
end
theorem walk_ofYT {l : PySem.W.OpenLaw} {n k : Nat} {q : Program} {loose : List Str} {XP : (Str → Option Value) → Heap → Prop} {YP : World → Heap → Prop} {d : DefRec} {CX : World → CXT} {x : Str} (ts : List (Str × Str))
    (hn : l.most = some n) (hn2 : n ≤ sizeLine) (hdf : d.params.defaults = []) (hr : Room k callerA) (hrec : ∀ p ∈ ts, ((recsOf q).find? fun e => e.name == p.1).isSome = true)
    (F : ∀ (w : World) (mg : Str → Option Value) (fa : Addr) (h : Heap), YP w h → h.Ns mainGlobals mg → mg d.name = some (.ref fa) →
      ∃ (K : PySem.W.Frag) (fd : FuncData) (sp : Sp), K.In h ∧ TabOkK ts K ∧ (∀ (s : Shared) (u : Value), BindsTo s fd ⟨[u], []⟩ [(x, u)]) ∧
        (∀ (H : Hp) (a : Addr) (ns : List Int), ns.length ≤ n → (∀ p ∈ csT ts K, H p.2 = some (.tbl #[])) → SqL K H a (ns.map V.int) → sp [.ref a] H (fun v _ => v = .bl true) fun _ _ _ => False) ∧
        ∀ base : Heap, K.In base → base.Ns mainGlobals mg → (∀ p ∈ csT ts K, TabB base mg p.1 p.2) → FnOk l.prog w K mg base (CX w) k fa fd [x] sp)
    (hCX : ∀ (w : World) (H : Hp) (s : Shared) (e : Value) (s' : Shared), CX w [] H s (fun _ _ _ => False) e s' → False) :
    PySem.W.WalkO q loose XP YP l.row.toRowW d [] (fun f vs => PySem.call f vs) := by
  refine Att.attach_callB hn hdf fun w s₀ s₁ mg mb fa o pm cd doc a vs ns G Y ho hd hcd hmg hobj hints hlen hbits hg => ?_
  obtain ⟨K, fd, sp, KX, tk, hb, hsp, hF⟩ := F w mg fa _ Y G.T.g hmg
  have key : ∀ p ∈ csT ts K, PySem.W.CodeHd s₁.heap p.1 p.2 ∧ s₁.heap.get? p.2 = some (PySem.W.tabObj #[]) ∧ K.lookup p.2 = none := fun p hp => by
    obtain ⟨r, hr, rfl⟩ := List.mem_map.mp hp
    obtain ⟨dr, hdr⟩ := Option.isSome_iff_exists.mp (hrec r hr)
    obtain ⟨h1, h2⟩ := PySem.W.tab_of G.T KX hdr (tk.at_ r hr)
    exact ⟨h1, h2, tk.no r hr⟩
  exact law_callTs KX G.T.g G.T.b G.T.builtins G.T.nolimit hg (fun p hp => (key p hp).2.1) (fun p hp => (key p hp).2.2) (fun p hp => (key p hp).1) G.T.bmain hobj hints (Nat.le_trans hlen hn2) hr hF hb (fun H hH hS => hsp H a ns hlen hH hS) fun H e s' => hCX w H s₁ e s'

/-! ### the head's facts without the tables -/
def asT (ts : List (Str × Str)) (g : Addr → Option Obj) (n : Nat) : List Addr := (asD g n).filter fun a => !((ts.map fun p => (tabAt (frG g (asD g 2)) p.1).2).contains a)
def obsTG (ts : List (Str × Str)) (n : Nat) (fa : List Ck) (fn : List DefD) (g : Addr → Option Obj) : AlY := obsY fa fn (frG g (asT ts g n))
def hookT (ts : List (Str × Str)) (n : Nat) (fa : List Ck) (fn : List DefD) : PySem.W.Hook where
  α := AlY
  obs := fun s => obsTG ts n fa fn s.heap.get?
  val := fun _ => valY fn
  says := fun _ h => ∃ K : PySem.W.Frag, K.In h ∧ SaysY fa fn K
  of := fun _ _ e => ⟨_, He.frG_in, e⟩
  keeps := fun _ _ _ ⟨K, hK, c⟩ k => ⟨K, PySem.W.Frag.In.keeps hK k, c⟩
theorem obsTG_eq {ts : List (Str × Str)} {n : Nat} {fa : List Ck} {fn : List DefD} {g : Addr → Option Obj} {s : Shared} (h : ∀ a, g a = s.heap.get? a) : obsTG ts n fa fn g = (hookT ts n fa fn).obs s := by
  have e : g = s.heap.get? := funext h
  rw [e] <;> rfl
theorem tab_in {hs xs : List (Nat × Str)} {ts : List (Str × Str)} {K : PySem.W.Frag} {p : Str × Str} (h : p ∈ ts) : ((tabAt K p.1).2, p.2) ∈ (zxT hs xs ts K).tabs := List.mem_map.mpr ⟨p, h, rfl⟩
theorem cs_in {ts : List (Str × Str)} {K : PySem.W.Frag} {base : Heap} {mg : Str → Option Value} (h : ∀ p ∈ csT ts K, TabB base mg p.1 p.2) {p : Str × Str} (hp : p ∈ ts) : TabB base mg (tabAt K p.1).1 (tabAt K p.1).2 := h _ (List.mem_map.mpr ⟨p, hp, rfl⟩)
section
variable {X : Cx} {Z : Zx} {E : XS}
/-- x(lambda: body), the def x by its record -/
theorem pd_lamF {B : DE → DS} {x a : Str} {g c P : Addr} {k n : Nat} {pg : Arguments} {bg : List Stmt} {sg : Scope} {fd : FuncData} {Ng : List Str}
    {params : Arguments} {body : Expr} {scope : Scope} {d : DE} {q : Str} {p lpos pos : Pos} (hg : Gl X x) (hm : X.mg x = some (.ref g)) (F : FunD X.K x x pg bg sg [] [] g fd) (hb : L2.Binds X.K fd [a] []) (Sg : FnScope Ng [a] sg) (hNg : Ng[0]? = some a) (hva : Vis sg a)
    (hq : X.env.qual ++ "<lambda>" = q) (hG : ∀ cdv, Gives3 X Ng x sg g cdv bg a q (TT3 X.K Z Ng B q))
    (TB : TabB X.base X.mg c P) (hcode : X.env.code = .ref c) (hr : Room (k + 2) X.A) (L : LamS X.env.scope scope) (hdef : defaultsOf params X.env = ([], []))
    (hbind : ∀ (q : Str) (cl : List (Str × Addr)) (pm cv ctv : Value), bindArgs (PySem.W.kla_fn "<lambda>" q params body scope cl pm cv ctv) ⟨[], []⟩ = pure [])
    (hZ : (P, q) ∈ Z.tabs) (hn : Ng.length = n + 1)
    (hbody : ∀ (A : Around) (outer : List Env) (s : Shared) (H : Hp) (E : XK) (f c' : Addr), Room k (A.deeper (lamEnv X scope s.heap.objs.size f c')) → PD (lamCx X A outer s H E scope f c') Z (fun cls dx _ H => E cls dx H) body d)
    (hdb : (x == ("__debug__" : Str)) = false := by decide) (hd : (a == ("__debug__" : Str)) = false := by decide) (hcd : (a == ("__classdict__" : Str)) = false := by decide) :
    PD X Z E (.Call (.Name x p) [.Lambda params body scope lpos] [] pos) (dLam B q n d) := by
  obtain ⟨oc, od, dV, kV, doc, pm, an, cdv, ct, osl, rfl, lk, hcd', _, _⟩ := F.ex
  exact pd_lam hg hm F.kp lk hcd' hb Sg hNg hva hq (hG cdv) TB hcode hr L hdef hbind hZ hn hbody (fun A h => h.mono (Nat.le_add_left 1 k)) hdb hd hcd
end
end Y
namespace Y
open PySem L2
/-- _law_pen -/
def d__law_pen : DS := (dRetD (dDisp [((dC (.str "cells")), (dFz (lComp (iSq (dFz (lCut (dVar 0) oNone (oPart (dC (.int 63)))))) (.one 1) tYes' (dVar 1)))), ((dC (.str "at")), (dC (.int 0))), ((dC (.str "left")), (dC (.int 0)))]))
/-- _law_draw -/
def d__law_draw : DS := (dSeq (dIf (dTest (dOp oGt (dOp oSub' (dVar 0) (dC (.str "left"))) (dC (.int 0))))
  (dSeq (dAsg 2 (dOp oMod (dOp oSub' (dVar 0) (dC (.str "left"))) (dVar 1)))
  (dSeq (dDPut (dVar 0) (dC (.str "left")) (dOp oDiv (dOp oSub' (dVar 0) (dC (.str "left"))) (dVar 1)))
  (dRet (dVar 2))))
  dNext)
  (dSeq (dAsg 3 (dOp oSub' (dVar 0) (dC (.str "at"))))
  (dSeq (dDPut (dVar 0) (dC (.str "at")) (dOp oPlus (dVar 3) (dC (.int 1))))
  (dSeq (dAsg 4 (dOp oPlus (dOp oTimes (dVar 3) (dVar 3)) (dC (.int 5))))
  (dSeq (dIf (dTest (dOp (oEqX true) (dOp oSub' (dVar 0) (dC (.str "cells"))) (dFz (lDisp aNil))))
  (dAsg 4 (dOp oSub' (dOp oSub' (dVar 0) (dC (.str "cells"))) (dOp oMod (dVar 3) (dCB cLen (aCons (dOp oSub' (dVar 0) (dC (.str "cells"))) aNil)))))
  dNext)
  (dSeq (dIf (dAnd (dTest (dOp oLt (dVar 3) (dCB cLen (aCons (dOp oSub' (dVar 0) (dC (.str "cells"))) aNil)))) (dTest (dOp oGe (dCB cAbs (aCons (dVar 4) aNil)) (dOp oPow (dC (.int 10)) (dC (.int 18))))))
  (dSeq (dDPut (dVar 0) (dC (.str "left")) (dOp oDiv (dCB cAbs (aCons (dVar 4) aNil)) (dVar 1)))
  (dRet (dOp oMod (dCB cAbs (aCons (dVar 4) aNil)) (dVar 1))))
  dNext)
  (dSeq (dAsg 5 (dOp oMod (dOp oTimes (dOp oPlus (dOp oPlus (dOp oMod (dVar 4) (dC (.int 4294967311))) (dOp oTimes (dC (.int 65539)) (dVar 3))) (dC (.int 17))) (dC (.int 48271))) (dC (.int 4294967311))))
  (dSeq (dFor [6] (iRg1 (aCons (dC (.int 3)) aNil)) (gN 6)
  (dSeq (dAsg 5 (dOp oPlus (dOp oPlus (dOp oPlus (dOp oTimes (dVar 5) (dVar 5)) (dOp oTimes (dC (.int 69621)) (dVar 5))) (dVar 3)) (dVar 6)))
  (dAsg 5 (dOp oMod (dVar 5) (dC (.int 4294967311))))))
  (dRet (dOp oMod (dOp oDiv (dVar 5) (dC (.int 32))) (dVar 1)))))))))))

/-! ### the pen -/
structure Pen where
  cells : List Int
  a : Int
  l : Int
def penT (p : Pen) : T := .dK [(.inr "cells", .lst (p.cells.map .int)), (.inr "at", .int p.a), (.inr "left", .int p.l)]
/-- a pen after at most n draws -/
structure PenB (n : Nat) (p : Pen) : Prop where
  a0 : 0 ≤ p.a
  a1 : p.a ≤ n
  l0 : 0 ≤ p.l
theorem PenB.mono {n m : Nat} {p : Pen} (h : PenB n p) (e : n ≤ m) : PenB m p := ⟨h.a0, by have := h.a1; omega, h.l0⟩
def c__law_draw : Ct := fun ts k _ => ∃ (n : Nat) (p : Pen) (m : Int), ts = [penT p, .fz (.int m)] ∧ PenB n p ∧ n ≤ 1000000000 ∧ 1 ≤ m ∧ m ≤ 100000000000000000000 ∧
  ∀ d p', 0 ≤ d → d < m → PenB (n + 1) p' → k (.fz (.int d)) [penT p', .fz (.int m)]
/-! ### ways that are known -/
theorem no {A B : Prop} (h : B) : (false = true → A) ∧ (false = false → B) := ⟨(fun z => nomatch z), fun _ => h⟩
theorem ye {A B : Prop} (h : A) : (true = true → A) ∧ (true = false → B) := ⟨fun _ => h, (fun z => nomatch z)⟩
/-! ### loops by a word -/
theorem forW_ind {fg : List Nat} {g : DG} {body : DS} {D : DEnds} (I : Nat → S → Prop) : ∀ (items : List W) (i : Nat) (st : S), (∀ j w, items[j]? = some w → ∀ k : S → Prop, (∀ st, I (i + j + 1) (wipeS st fg) → k st) → ∀ st, I (i + j) st → g w st fun st1 => body { D with nx := k, ct := k, bk := fun st => D.nx (wipeS st fg) } st1) →
    (∀ st, I (i + items.length) st → D.nx st) → I i (wipeS st fg) → forW fg g body D items st
  | [], i, st, _, hd, h0 => hd _ h0
  | w :: ws, i, st, hs, hd, h0 => by
    refine hs 0 w rfl (forW fg g body D ws) (fun st1 h1 => ?_) (wipeS st fg) h0
    refine forW_ind I ws (i + 1) st1 (fun j u hu k hk st2 h2 => ?_) (fun st2 h2 => hd st2 ?_) h1
    · refine hs (j + 1) u hu k (fun st3 h3 => hk st3 ?_) st2 ?_
      · rw [show i + 1 + j + 1 = i + (j + 1) + 1 by omega]; exact h3
      · rw [show i + (j + 1) = i + 1 + j by omega]; exact h2
    · rw [List.length_cons, show i + (ws.length + 1) = i + 1 + ws.length by omega]; exact h2
theorem for_ind {fg : List Nat} {g : DG} {body : DS} {D : DEnds} {items : List W} {st : S} (I : Nat → S → Prop) (h0 : I 0 (wipeS st fg)) (hs : ∀ j w, items[j]? = some w → ∀ k : S → Prop, (∀ st, I (j + 1) (wipeS st fg) → k st) → ∀ st, I j st → g w st fun st1 => body { D with nx := k, ct := k, bk := fun st => D.nx (wipeS st fg) } st1)
    (hd : ∀ st, I items.length st → D.nx st) : forW fg g body D items st :=
  forW_ind I items 0 st (fun j w hw k hk st hi => hs j w hw k (fun st h => hk st (by rw [Nat.zero_add]; exact h)) st (by rw [Nat.zero_add] at hi; exact hi)) (fun st h => hd st (by rw [Nat.zero_add] at h; exact h)) h0
/-! ### comprehensions that change nothing -/
def Turn' (ct : CT) (cond : DT) (elt : DE) (st : S) (f : W → Option W) (w : W) : Prop := ∀ (A : W → S → Prop) (B : S → Prop), (match f w with | some v => A v st | none => B st) →
  ct.g w st fun st1 => cond st1 (fun b st2 =>
      (b = true → elt st2 (fun r st3 => match r with
        | .w v => A v (wipeS st3 ct.own)
        | .pk _ => False) (fun _ _ => False)) ∧
      (b = false → B (wipeS st2 ct.own))) (fun _ _ => False)
theorem compW_pure {ct : CT} {cond : DT} {elt : DE} {st : S} (f : W → Option W) : ∀ (ws acc : List W) (k : List W → S → Prop), (∀ w ∈ ws, Turn' ct cond elt st f w) → acc.length + ws.length ≤ sizeLine → k (acc ++ ws.filterMap f) st → compW ct cond elt ws acc st k
  | [], acc, k, _, _, h => by rw [List.filterMap_nil, List.append_nil] at h; exact h
  | w :: ws, acc, k, ht, hl, h => by
    rw [List.length_cons] at hl
    refine ht w List.mem_cons_self (fun v st' => acc.length < sizeLine ∧ compW ct cond elt ws (acc ++ [v]) st' k) (fun st' => compW ct cond elt ws acc st' k) ?_
    cases e : f w with
    | none =>
      rw [List.filterMap_cons, e] at h
      exact compW_pure f ws acc k (fun u hu => ht u (List.mem_cons_of_mem _ hu)) (by omega) h
    | some v =>
      rw [List.filterMap_cons, e] at h
      refine ⟨by omega, compW_pure f ws (acc ++ [v]) k (fun u hu => ht u (List.mem_cons_of_mem _ hu)) (by rw [List.length_append, List.length_singleton]; omega) ?_⟩
      rw [List.append_assoc]; exact h
/-! ### lists of numbers as data -/
theorem pds_ints : ∀ ns : List Int, W.pds (ns.map W.int) = some (ns.map PyData.int)
  | [] => rfl
  | n :: ns => by rw [List.map_cons, List.map_cons]; unfold W.pds; rw [pds_ints ns]; rfl
theorem pd_ints (ns : List Int) : (W.lst (ns.map W.int)).pd = some (.list (ns.map .int)) := by unfold W.pd; rw [pds_ints]; rfl
theorem lay_ints : ∀ ns : List Int, PyData.canLayAll0 (ns.map PyData.int) = true
  | [] => rfl
  | n :: ns => by rw [List.map_cons]; unfold PyData.canLayAll0; rw [lay_ints ns]; rfl
theorem depth_ints : ∀ ns : List Int, PyData.depthAll (ns.map PyData.int) = 0
  | [] => rfl
  | n :: ns => by rw [List.map_cons]; unfold PyData.depthAll; rw [depth_ints ns]; rfl
theorem shaped_ints (ns : List Int) : SeqAt.shaped (.list (ns.map PyData.int)) = true := by
  unfold SeqAt.shaped
  have h1 : PyData.canLay0 (.list (ns.map PyData.int)) = true := by unfold PyData.canLay0; exact lay_ints ns
  have h2 : PyData.depth (.list (ns.map PyData.int)) = 1 := by unfold PyData.depth; rw [depth_ints]
  rw [h1, h2]; rfl
theorem eqv_ints : ∀ ns ms : List Int, PyData.eqvAll (ns.map PyData.int) (ms.map PyData.int) = decide (ns = ms)
  | [], [] => rfl
  | [], _ :: _ => rfl
  | _ :: _, [] => rfl
  | n :: ns, m :: ms => by
    rw [List.map_cons, List.map_cons]
    unfold PyData.eqvAll
    rw [eqv_ints ns ms]
    have : PyData.eqv (.int n) (.int m) = (n == m) := rfl
    rw [this]
    by_cases h : n = m
    · by_cases h2 : ns = ms <;> simp [h, h2]
    · simp [h]
theorem atI_int {ns : List Int} {i : Int} (h0 : 0 ≤ i) (h1 : i < ns.length) : ∃ c, atI (ns.map W.int) i = some (.int c) ∧ ns[i.toNat]? = some c := by
  have hl : i.toNat < ns.length := by omega
  refine ⟨ns[i.toNat], ?_, by simp [hl]⟩
  have := atI_nat (xs := ns.map W.int) (j := i.toNat) (v := .int ns[i.toNat]) (by simp [hl])
  rwa [show ((i.toNat : Nat) : Int) = i by omega] at this
theorem bt {b : Bool} {P : Prop} [Decidable P] (h : decide P = true) : P := of_decide_eq_true h
theorem bf {P : Prop} [Decidable P] (h : decide P = false) : ¬ P := of_decide_eq_false h
theorem div_ok {i m : Int} (h1 : 1 ≤ m) (h2 : m ≤ 100000000000000000000) : CDivW i m := wide_div (b := 67) (by omega) (by omega) (by decide) (by decide)
theorem mul_small {i j : Int} (h1 : -(2 ^ 100) < i) (h2 : i < 2 ^ 100) (h3 : -(2 ^ 100) < j) (h4 : j < 2 ^ 100) : CMulW i j := wide_mul (a := 100) (b := 100) (by omega) (by omega) (by decide) (by decide) (by decide)
def drawTail : DS := (dSeq (dAsg 5 (dOp oMod (dOp oTimes (dOp oPlus (dOp oPlus (dOp oMod (dVar 4) (dC (.int 4294967311))) (dOp oTimes (dC (.int 65539)) (dVar 3))) (dC (.int 17))) (dC (.int 48271))) (dC (.int 4294967311))))
  (dSeq (dFor [6] (iRg1 (aCons (dC (.int 3)) aNil)) (gN 6)
  (dSeq (dAsg 5 (dOp oPlus (dOp oPlus (dOp oPlus (dOp oTimes (dVar 5) (dVar 5)) (dOp oTimes (dC (.int 69621)) (dVar 5))) (dVar 3)) (dVar 6)))
  (dAsg 5 (dOp oMod (dVar 5) (dC (.int 4294967311))))))
  (dRet (dOp oMod (dOp oDiv (dVar 5) (dC (.int 32))) (dVar 1)))))
theorem draw_tail (cells : List Int) (a l m c : Int) {n : Nat} {k : T → List T → Prop} {kx : XW → List T → Prop} (h0 : 0 ≤ a) (a1 : a ≤ n) (hn : n ≤ 1000000000) (hm : 1 ≤ m) (hm2 : m ≤ 100000000000000000000)
    (hk : ∀ d, 0 ≤ d → d < m → k (.fz (.int d)) [penT ⟨cells, a + 1, l⟩, .fz (.int m)]) :
    drawTail (endsOf [penT ⟨cells, a, l⟩, .fz (.int m)] k kx) [.mp 0 (penT ⟨cells, a + 1, l⟩), .lo (.fz (.int m)), .un, .lo (.fz (.int a)), .lo (.fz (.int c)), .un, .un] := by
  refine ⟨by omega, mul_small (by decide) (by decide) (by omega) (by omega), mul_small (by omega) (by omega) (by decide) (by decide), by omega, ?_⟩
  refine ⟨by decide, ?_⟩
  refine for_ind (fun i st => ∃ num : Int, 0 ≤ num ∧ num < 4294967311 ∧ st = [.mp 0 (penT ⟨cells, a + 1, l⟩), .lo (.fz (.int m)), .un, .lo (.fz (.int a)), .lo (.fz (.int c)), .lo (.fz (.int num)), .un]) ⟨_, Int.emod_nonneg _ (by decide), Int.emod_lt_of_pos _ (by decide), rfl⟩ ?_ ?_
  · rintro j w hw k hk' st ⟨num, n0, n1, rfl⟩
    rw [List.getElem?_map] at hw
    obtain ⟨j', h1, rfl⟩ := Option.map_eq_some_iff.mp hw
    refine ⟨mul_small (by omega) (by omega) (by omega) (by omega), mul_small (by decide) (by decide) (by omega) (by omega), by omega, ?_⟩
    exact hk' _ ⟨_, Int.emod_nonneg _ (by decide), Int.emod_lt_of_pos _ (by decide), rfl⟩
  · rintro st ⟨num, n0, n1, rfl⟩
    refine ⟨div_ok (by decide) (by decide), by omega, ?_⟩
    exact hk _ (Int.emod_nonneg _ (by omega)) (Int.emod_lt_of_pos _ (by omega))
def drawMid : DS := (dSeq (dIf (dAnd (dTest (dOp oLt (dVar 3) (dCB cLen (aCons (dOp oSub' (dVar 0) (dC (.str "cells"))) aNil)))) (dTest (dOp oGe (dCB cAbs (aCons (dVar 4) aNil)) (dOp oPow (dC (.int 10)) (dC (.int 18))))))
  (dSeq (dDPut (dVar 0) (dC (.str "left")) (dOp oDiv (dCB cAbs (aCons (dVar 4) aNil)) (dVar 1)))
  (dRet (dOp oMod (dCB cAbs (aCons (dVar 4) aNil)) (dVar 1))))
  dNext) drawTail)
theorem draw_mid (cells : List Int) (a l m c : Int) {n : Nat} {k : T → List T → Prop} {kx : XW → List T → Prop} (h0 : 0 ≤ a) (a1 : a ≤ n) (hn : n ≤ 1000000000) (hm : 1 ≤ m) (hm2 : m ≤ 100000000000000000000) (l0 : 0 ≤ l)
    (hk : ∀ d l', 0 ≤ l' → 0 ≤ d → d < m → k (.fz (.int d)) [penT ⟨cells, a + 1, l'⟩, .fz (.int m)]) :
    drawMid (endsOf [penT ⟨cells, a, l⟩, .fz (.int m)] k kx) [.mp 0 (penT ⟨cells, a + 1, l⟩), .lo (.fz (.int m)), .un, .lo (.fz (.int a)), .lo (.fz (.int c)), .un, .un] := by
  have tail := draw_tail (kx := kx) cells a l m c h0 a1 hn hm hm2 (fun d d0 d1 => hk d l l0 d0 d1)
  refine ⟨_, rfl, fun h1 => ?_, fun h1 => no tail⟩
  refine ⟨⟨by decide, by decide, by decide⟩, fun h2 => ?_, fun h2 => tail⟩
  have hc : 0 ≤ (if c < 0 then -c else c) := by split <;> omega
  refine ⟨div_ok hm hm2, by show (3 : Nat) < sizeLine; decide, by omega, ?_⟩
  exact hk _ _ (Int.ediv_nonneg hc (by omega)) (Int.emod_nonneg _ (by omega)) (Int.emod_lt_of_pos _ (by omega))
def c__law_pen : Ct := fun ts k _ => ∃ ns : List Int, ts = [.fz (.scr ns)] ∧ ns.length ≤ 63 ∧ k (penT ⟨ns, 0, 0⟩) [.fz (.scr ns)]
theorem cut63 {ns : List Int} (h : ns.length ≤ 63) : cutW (ns.map W.int) none (some 63) = ns.map W.int := by
  unfold cutW
  have e : HT.sIx (ns.map W.int).length (ns.map W.int).length (some 63) = (ns.map W.int).length := by
    have := HT.sIx_nat (ns.map W.int).length (ns.map W.int).length 63
    rw [show (some 63 : Option Int) = some ((63 : Nat) : Int) from rfl, this, List.length_map]
    omega
  rw [e, HT.sIx_none, Nat.sub_zero, List.drop_zero, List.take_length]
theorem m__law_pen : Meets c__law_pen 1 1 d__law_pen := by
  intro ts k kx h
  obtain ⟨ns, rfl, hn, hk⟩ := h
  refine ⟨rfl, ?_⟩
  show compW (.one 1) tYes' (dVar 1) (cutW (ns.map W.int) none (some 63)) [] _ _
  rw [cut63 hn]
  have hl : (63 : Nat) ≤ sizeLine := by decide
  refine compW_pure (fun w => some w) _ _ _ (fun w hw A B h => ?_) (by rw [List.length_map]; show 0 + ns.length ≤ _; omega) ?_
  · exact ye h
  · rw [List.filterMap_some]
    refine ⟨by show (3 : Nat) ≤ 15; decide, ?_⟩
    exact hk
theorem m__law_draw : Meets c__law_draw 2 5 d__law_draw := by
  intro ts k kx h
  obtain ⟨n, ⟨cells, a, l⟩, m, rfl, hp, hn, h1, h2, hk⟩ := h
  obtain ⟨a0, a1, l0⟩ := hp
  replace a0 : 0 ≤ a := a0
  replace a1 : a ≤ n := a1
  replace l0 : 0 ≤ l := l0
  refine ⟨rfl, ?_⟩
  refine ⟨.int l, rfl, fun h => ?_, fun h => ?_⟩
  · have hl : 0 < l := of_decide_eq_true h
    refine ⟨.int l, rfl, by omega, .int l, rfl, div_ok h1 h2, by show (3 : Nat) < sizeLine; decide, ?_⟩
    exact hk (l % m) ⟨cells, a, l / m⟩ (Int.emod_nonneg _ (by omega)) (Int.emod_lt_of_pos _ (by omega)) ⟨a0, by show a ≤ _; omega, Int.ediv_nonneg l0 (by omega)⟩
  · have mid := fun c => draw_mid (kx := kx) cells a l m c a0 a1 hn h1 h2 l0 (fun d l' hl' d0 d1 => hk d ⟨cells, a + 1, l'⟩ d0 d1 ⟨by show 0 ≤ a + 1; omega, by show a + 1 ≤ _; omega, hl'⟩)
    refine ⟨.int a, rfl, by show (3 : Nat) < sizeLine; decide, mul_small (by omega) (by omega) (by omega) (by omega), ?_⟩
    refine ⟨.lst (cells.map .int), rfl, by decide, .inl ⟨.list (cells.map .int), .list [], pd_ints cells, rfl, shaped_ints cells, rfl, fun h => ?_, fun h => ?_⟩⟩
    · have hne : cells ≠ [] := by
        rintro rfl
        exact absurd h (by decide)
      have hl : 0 < cells.length := List.length_pos_iff.mpr hne
      have hlen : ((cells.map W.int).length : Int) = cells.length := by rw [List.length_map]
      obtain ⟨c, hc, _⟩ := atI_int (ns := cells) (i := a % ((cells.map W.int).length : Int)) (Int.emod_nonneg _ (by omega)) (by have := Int.emod_lt_of_pos a (b := ((cells.map W.int).length : Int)) (by omega); omega)
      refine ⟨.lst (cells.map .int), rfl, .lst (cells.map .int), rfl, by omega, .int c, hc, ?_⟩
      exact mid c
    · exact mid (a * a + 5)
end Y
namespace Y
open PySem L2
/-! ### steps of the walk over data -/
theorem lel (n : Nat) (h : Nat.ble n 1000 = true) : n ≤ sizeLine := Nat.le_trans (Nat.le_of_ble_eq_true h) (by decide)
theorem eqo {ng : Bool} {a b : W} {r : Bool} {k : W → Prop} (h : eqD 6 a b = some r) (hk : k (.bl (nq ng r))) : oEqX ng a b k := .inr ⟨r, h, hk⟩
def orW (a m : W) : W := match m with
  | .non => a
  | m => m
def mx (i j : Int) : Int := if j > i then j else i
def mn (i j : Int) : Int := if j < i then j else i
/-- numbers that are written -/
def Sm (i : Int) : Prop := -(10 ^ 40) < i ∧ i < 10 ^ 40
theorem Sm.lg {i : Int} (h : Sm i) : i.natAbs.log2 < 1920 := by
  have h1 : i.natAbs < 2 ^ 140 := by
    have a := h.1; have b := h.2
    have : (10 : Int) ^ 40 < 2 ^ 140 := by decide
    omega
  by_cases h0 : i.natAbs = 0
  · rw [h0]; decide
  · have := (Nat.log2_lt h0 (k := 140)).mpr h1
    omega
theorem Sm.len {i : Int} (h : Sm i) : (Str.ofString (toString i)).length ≤ 42 := by
  have h1 : i.natAbs < 10 ^ 40 := by
    have a := h.1; have b := h.2
    omega
  have h2 := PySem.int_text_length_le10 (k := 40) (by decide) h1
  rw [show (Str.ofString (toString i)).length = (toString i).length from ?_]
  · omega
  · rw [Str.ofString_eq_toList]
    show (List.map Char.toNat (toString i).toList).toArray.size = _
    rw [List.size_toArray, List.length_map, String.length_toList]

/-- two ways by a test of its own -/
theorem br {c : Prop} [Decidable c] {A B : Prop} (h1 : c → A) (h2 : ¬ c → B) : (decide c = true → A) ∧ (decide c = false → B) := ⟨fun h => h1 (of_decide_eq_true h), fun h => h2 (of_decide_eq_false h)⟩
theorem brn {c : Prop} [Decidable c] {A B : Prop} (h1 : ¬ c → A) (h2 : c → B) : ((!decide c) = true → A) ∧ ((!decide c) = false → B) := ⟨fun h => h1 (by simpa using h), fun h => h2 (by simpa using h)⟩
def intS (i : Int) : Str := Str.ofString (toString i)
theorem len_app (a b : Str) : (a ++ b).length = a.length + b.length := by
  show (a.cps ++ b.cps).size = _
  rw [Array.size_append]; rfl
theorem app_nil (a : Str) : Str.empty ++ a = a := by
  show Str.mk (#[] ++ a.cps) = a
  rw [Array.empty_append]
/-- a text's length, at most -/
def SL (s : Str) (n : Nat) : Prop := s.length ≤ n
theorem SL.app {a b : Str} {m n : Nat} (h1 : SL a m) (h2 : SL b n) : SL (a ++ b) (m + n) := by unfold SL at *; rw [len_app]; omega
theorem SL.line {a : Str} {n : Nat} (h : SL a n) (hn : Nat.ble n 100000 = true) : a.length ≤ sizeLine := Nat.le_trans h (Nat.le_trans (Nat.le_of_ble_eq_true hn) (by decide))
theorem SL.sum {a b : Str} {n : Nat} (h : SL (a ++ b) n) (hn : Nat.ble n 100000 = true) : a.length + b.length ≤ sizeLine := by
  have := h.line hn
  rwa [len_app] at this
theorem Sm.sl {i : Int} (h : Sm i) : SL (intS i) 42 := h.len
theorem sl_nil : SL Str.empty 0 := Nat.le_refl _
theorem sl_lit {s : String} (n : Nat) (h : Nat.ble (Str.ofString s).length n = true) : SL (Str.ofString s) n := Nat.le_of_ble_eq_true h
/-! ### a loop over a caller's own list -/
theorem forG_indA {ok : S → Prop} {fg : List Nat} {g : DG} {body : DS} {D : DEnds} (I : Nat → S → Prop) : ∀ (items : List W) (i : Nat) (st : S), (∀ j st, I j (wipeS st fg) → ok st) → (∀ j w, items[j]? = some w → ∀ k : S → Prop, (∀ st, I (i + j + 1) (wipeS st fg) → k st) → ∀ st, I (i + j) st → g w st fun st1 => body { D with nx := k, ct := k, bk := fun st => D.nx (wipeS st fg) } st1) →
    (∀ st, I (i + items.length) st → D.nx st) → I i (wipeS st fg) → forG ok fg g body D items st
  | [], i, st, hok, _, hd, h0 => ⟨hok _ _ h0, hd _ h0⟩
  | w :: ws, i, st, hok, hs, hd, h0 => by
    refine ⟨hok _ _ h0, hs 0 w rfl (forG ok fg g body D ws) (fun st1 h1 => ?_) (wipeS st fg) h0⟩
    refine forG_indA I ws (i + 1) st1 hok (fun j u hu k hk st2 h2 => ?_) (fun st2 h2 => hd st2 ?_) h1
    · refine hs (j + 1) u hu k (fun st3 h3 => hk st3 ?_) st2 ?_
      · rw [show i + 1 + j + 1 = i + (j + 1) + 1 by omega]; exact h3
      · rw [show i + (j + 1) = i + 1 + j by omega]; exact h2
    · rw [List.length_cons, show i + (ws.length + 1) = i + 1 + ws.length by omega]; exact h2
theorem forG_ind {ok : S → Prop} {fg : List Nat} {g : DG} {body : DS} {D : DEnds} {items : List W} {st : S} (I : Nat → S → Prop) (h0 : I 0 (wipeS st fg)) (hok : ∀ j st, I j (wipeS st fg) → ok st) (hs : ∀ j w, items[j]? = some w → ∀ k : S → Prop, (∀ st, I (j + 1) (wipeS st fg) → k st) → ∀ st, I j st → g w st fun st1 => body { D with nx := k, ct := k, bk := fun st => D.nx (wipeS st fg) } st1)
    (hd : ∀ st, I items.length st → D.nx st) : forG ok fg g body D items st :=
  forG_indA I items 0 st hok (fun j w hw k hk st hi => hs j w hw k (fun st h => hk st (by rw [Nat.zero_add]; exact h)) st (by rw [Nat.zero_add] at hi; exact hi)) (fun st h => hd st (by rw [Nat.zero_add] at h; exact h)) h0
/-- [b x for x in xs] -/
theorem compW_mapA {α : Type} {ct : CT} {cond : DT} {elt : DE} {st : S} {a b : α → W} {k : List W → S → Prop} : ∀ (xs : List α) (acc : List W), (∀ x ∈ xs, Turn' ct cond elt st (fun _ => some (b x)) (a x)) → acc.length + xs.length ≤ sizeLine → k (acc ++ xs.map b) st → compW ct cond elt (xs.map a) acc st k
  | [], acc, _, _, h => by rw [List.map_nil, List.append_nil] at h; exact h
  | x :: xs, acc, ht, hl, h => by
    rw [List.length_cons] at hl
    refine ht x List.mem_cons_self (fun v st' => acc.length < sizeLine ∧ compW ct cond elt (xs.map a) (acc ++ [v]) st' k) (fun st' => compW ct cond elt (xs.map a) acc st' k) ?_
    refine ⟨by omega, compW_mapA xs (acc ++ [b x]) (fun u hu => ht u (List.mem_cons_of_mem _ hu)) (by rw [List.length_append, List.length_singleton]; omega) ?_⟩
    rw [List.append_assoc]
    exact h
theorem compW_map {α : Type} {ct : CT} {cond : DT} {elt : DE} {st : S} {a b : α → W} {k : List W → S → Prop} {xs : List α} (ht : ∀ x ∈ xs, Turn' ct cond elt st (fun _ => some (b x)) (a x)) (hl : xs.length ≤ sizeLine) (h : k (xs.map b) st) : compW ct cond elt (xs.map a) [] st k :=
  compW_mapA xs [] ht (by rw [List.length_nil, Nat.zero_add]; exact hl) (by rw [List.nil_append]; exact h)
/-- a comprehension whose turns change the slots -/
theorem compW_stA {ct : CT} {cond : DT} {elt : DE} {k : List W → S → Prop} (I : Nat → List W → S → Prop) : ∀ (items : List W) (i : Nat) (acc : List W) (st : S),
    (∀ j w, items[j]? = some w → ∀ acc st, I (i + j) acc st → ∀ (A : W → S → Prop) (B : S → Prop), (∀ v st', I (i + j + 1) (acc ++ [v]) st' → A v st') → (∀ st', I (i + j + 1) acc st' → B st') →
      ct.g w st fun st1 => cond st1 (fun b st2 => (b = true → elt st2 (fun r st3 => match r with
        | .w v => A v (wipeS st3 ct.own)
        | .pk _ => False) (fun _ _ => False)) ∧ (b = false → B (wipeS st2 ct.own))) (fun _ _ => False)) →
    acc.length + items.length ≤ sizeLine → (∀ acc st, I (i + items.length) acc st → k acc st) → I i acc st → compW ct cond elt items acc st k
  | [], i, acc, st, _, _, hk, h0 => hk acc st h0
  | w :: ws, i, acc, st, hs, hl, hk, h0 => by
    rw [List.length_cons] at hl
    have go : ∀ (acc' : List W) (st' : S), acc'.length ≤ acc.length + 1 → I (i + 1) acc' st' → compW ct cond elt ws acc' st' k := fun acc' st' hl' h' =>
      compW_stA I ws (i + 1) acc' st' (fun j u hu acc2 st2 h2 A B hA hB => hs (j + 1) u hu acc2 st2 (by rw [show i + (j + 1) = i + 1 + j by omega]; exact h2) A B (fun v st3 h3 => hA v st3 (by rw [show i + 1 + j + 1 = i + (j + 1) + 1 by omega]; exact h3)) (fun st3 h3 => hB st3 (by rw [show i + 1 + j + 1 = i + (j + 1) + 1 by omega]; exact h3)))
        (by omega) (fun acc2 st2 h2 => hk acc2 st2 (by rw [List.length_cons, show i + (ws.length + 1) = i + 1 + ws.length by omega]; exact h2)) h'
    exact hs 0 w rfl acc st h0 (fun v st' => acc.length < sizeLine ∧ compW ct cond elt ws (acc ++ [v]) st' k) (fun st' => compW ct cond elt ws acc st' k) (fun v st' h' => ⟨by omega, go _ _ (by rw [List.length_append, List.length_singleton]; exact Nat.le_refl _) h'⟩) fun st' h' => go _ _ (Nat.le_succ _) h'
theorem compW_st {ct : CT} {cond : DT} {elt : DE} {k : List W → S → Prop} {items : List W} {st : S} (I : Nat → List W → S → Prop) (h0 : I 0 [] st)
    (hs : ∀ j w, items[j]? = some w → ∀ acc st, I j acc st → ∀ (A : W → S → Prop) (B : S → Prop), (∀ v st', I (j + 1) (acc ++ [v]) st' → A v st') → (∀ st', I (j + 1) acc st' → B st') →
      ct.g w st fun st1 => cond st1 (fun b st2 => (b = true → elt st2 (fun r st3 => match r with
        | .w v => A v (wipeS st3 ct.own)
        | .pk _ => False) (fun _ _ => False)) ∧ (b = false → B (wipeS st2 ct.own))) (fun _ _ => False))
    (hl : items.length ≤ sizeLine) (hk : ∀ acc st, I items.length acc st → k acc st) : compW ct cond elt items [] st k :=
  compW_stA I items 0 [] st (fun j w hw acc st h A B hA hB => hs j w hw acc st (by rw [Nat.zero_add] at h; exact h) A B (fun v st' h' => hA v st' (by rw [Nat.zero_add]; exact h')) fun st' h' => hB st' (by rw [Nat.zero_add]; exact h')) (by rw [List.length_nil, Nat.zero_add]; exact hl)
    (fun acc st h => hk acc st (by rw [Nat.zero_add] at h; exact h)) h0
end Y
namespace Y
open PySem L2
/-! ### == of lists of flat things -/
theorem eqW_str (n : Nat) (a b : Str) : eqW (n + 1) (.str a) (.str b) = some (decide (a = b)) := rfl
theorem eqW_int (n : Nat) (a b : Int) : eqW (n + 1) (.int a) (.int b) = some (decide (a = b)) := rfl
section
variable {α : Type} [DecidableEq α] {f : α → W} {n : Nat}
theorem eqWs_map (h : ∀ x y, eqW n (f x) (f y) = some (decide (x = y))) : ∀ xs ys : List α, eqWs (eqW n) (xs.map f) (ys.map f) = some (decide (xs = ys))
  | [], [] => rfl
  | [], _ :: _ => rfl
  | _ :: _, [] => rfl
  | x :: xs, y :: ys => by
    rw [List.map_cons, List.map_cons]
    unfold eqWs
    rw [h x y, eqWs_map h xs ys]
    by_cases e : x = y
    · subst e
      simp
    · simp [e]
theorem anyW_map (h : ∀ x y, eqW n (f x) (f y) = some (decide (x = y))) (a : α) : ∀ xs : List α, anyW (fun y => eqW n y (f a)) (xs.map f) = some (decide (a ∈ xs))
  | [] => rfl
  | x :: xs => by
    rw [List.map_cons]
    unfold anyW
    rw [h x a, anyW_map h a xs]
    by_cases e : x = a
    · subst e
      simp
    · have : ¬ a = x := fun q => e q.symm
      simp [e, this]
theorem countW_map (h : ∀ x y, eqW n (f x) (f y) = some (decide (x = y))) (a : α) : ∀ xs : List α, countW (fun y => eqW n y (f a)) (xs.map f) = some (xs.countP fun y => decide (y = a))
  | [] => rfl
  | x :: xs => by
    rw [List.map_cons]
    unfold countW
    rw [h x a, countW_map h a xs]
    show some _ = some _
    rw [List.countP_cons]
end
theorem eqS_strs (xs ys : List Str) : eqD 6 (.lst (xs.map .str)) (.lst (ys.map .str)) = some (decide (xs = ys)) := eqWs_map (n := 6) (eqW_str 5) xs ys
end Y
/-! Z12: sorted(.., key=f), f any function whose calls keep an invariant of one's own -/
namespace SK
open PySem PySem.W PySem.Calls PyProof.Rows
theorem erased (h : Heap) (c : Addr) : ∃ g : Heap, g.get? c = none ∧ ∀ b, b ≠ c → g.get? b = h.get? b := by
  refine ⟨h.update c (fun o => { o with data := .freed }), ?_, fun b hb => Heap.get?_update_ne _ _ _ _ hb⟩
  obtain ⟨objs, l⟩ := h
  unfold Heap.update Heap.get?
  simp only [Array.getElem?_modify, if_true]
  cases objs[c]? <;> rfl
section
variable {prog : Program} {w : World} {A : Around} {E : Value → Shared → Prop} {s : Shared} {a kS : Addr} {vs : List Value} {e1 : Nat} {P : PySem.Fin → Shared → Prop} {kz : List PyData}
/-- the invariant J (items done, keys so far) bears what the sort does to its two lists -/
def Bears (J : Nat → Shared → List Value → Prop) (a kS : Addr) : Prop :=
  ∀ i t us h' tk, J i t us → (∀ b o, b ≠ a → b ≠ kS → t.heap.get? b = some o → h'.get? b = some o) → J i { t with heap := h', toks := tk } us
/-- the two lists stay -/
def Same2 (a kS : Addr) (t t' : Shared) : Prop := ∀ b o, b = a ∨ b = kS → t.heap.get? b = some o → t'.heap.get? b = some o
theorem restJ {f : Value} (J : Nat → Shared → List Value → Prop) (br : Bears J a kS) (nk : s.heap.get? kS = some (seqObj "list" #[] 0)) (na : s.heap.get? a = some (seqObj "list" #[] e1)) (hka : kS ≠ a)
    (hlen : kz.length = vs.length) (hZ : vs.length ≤ sizeLine) (hal : AllAlike kz) (hsk : Sortable kz) (hu : ∀ d, d ∈ kz → A.units + d.depth < cLine) (j0 : J 0 s [])
    (turn : ∀ (i : Nat) (v : Value) (t : Shared) (us : List Value), vs[i]? = some v → us.length = i → J i t us → (∃ o, t.heap.get? a = some o) → (∃ o, t.heap.get? kS = some o) → wpAny (model prog w) A (call f [v]) (fun u t' => J (i + 1) t' (us ++ [u]) ∧ Same2 a kS t t') (fun _ _ => False) t)
    (rd : ∀ t us, J vs.length t us → EachIs (fun u k => Reads t.heap u k []) us kz)
    (h : ∀ t us h' tk out c, J vs.length t us → (∀ b o, b ≠ a → b ≠ kS → t.heap.get? b = some o → h'.get? b = some o) → h'.get? a = some (seqObj "list" (List.toArray out) c) → KeyedOut false kz vs out → P (.done (.ret .none)) { t with heap := h', toks := tk }) :
    wpAny (model prog w) A (ksk_rest a f false vs.toArray e1 (.ref kS)) P E s := by
  unfold ksk_rest
  refine wpAny_bind (wpAny_rule ?_)
  first
    | rw [List.forIn_toArray]
    | (rw [← Array.forIn_toList]; simp only [List.toList_toArray])
    | rw [← Array.forIn_toList]
  refine wpAny_bind (ksk_fold (fun i t => ∃ us kA e, J i t us ∧ t.heap.get? kS = some (seqObj "list" kA e) ∧ kA.toList = us ∧ us.length = i ∧ t.heap.get? a = some (seqObj "list" #[] e1)) vs 0 s
    ⟨[], #[], 0, j0, nk, rfl, rfl, na⟩ ?step ?done)
  case step =>
    rintro j x t hx ⟨us, kA, e, jt, nk', rfl, hl, na'⟩
    simp only [Nat.zero_add] at hl jt ⊢
    have hj : j < vs.length := (List.getElem?_eq_some_iff.mp hx).1
    have hz : kA.size ≤ sizeLine := by
      rw [Array.length_toList] at hl
      omega
    refine wpAny_bind (wpAny_attempt (wpAny_mono (turn j x t _ hx hl jt ⟨_, na'⟩ ⟨_, nk'⟩) (fun v t' he => ?_) fun _ _ hF => hF.elim))
    obtain ⟨jt', sm⟩ := he
    try dsimp only
    have nk2 := sm _ _ (.inr rfl) nk'
    have na2 := sm _ _ (.inl rfl) na'
    have s1 := Heap.SameBut.update t'.heap kS (Obj.mapSeq (·.push v))
    obtain ⟨c2, hc2⟩ : ∃ c2, (t'.heap.update kS (Obj.mapSeq (·.push v))).get? kS = some (seqObj "list" (kA.push v) c2) := ⟨_, get?_update_seq nk2 (·.push v)⟩
    refine wpAny_bind (listUpdate_at nk2 rfl ?_ hz (Nat.le_trans (Nat.le_of_eq (Array.size_push ..)) (Nat.succ_le_succ hz)))
    exact wpAny_pure ⟨rfl, _, kA.push v, c2, br _ _ _ _ _ jt' fun b o _ hb q => (s1.2 b hb).trans q, hc2, by simp, by simp at hl ⊢; omega, (s1.2 a hka.symm).trans na2⟩
  case done =>
    rintro t ⟨us, kA, e, jt, nk', rfl, hl, na'⟩
    simp only [Nat.zero_add] at hl jt
    have hk := rd _ _ jt
    have hsz : kA.size = vs.length := by rw [← Array.length_toList]; exact hl
    have hk' : EachIs (fun v k => ∃ as, Reads t.heap v k as) kA.toList kz := hk.mono fun v k q => ⟨[], q⟩
    obtain ⟨g, g1, g2⟩ := erased t.heap kS
    try dsimp only
    refine wpAny_bind (listItems_at nk' rfl ?_)
    refine keyH_end (κ := dataKind t.heap kz) (h₁ := g) (fun b o hb q => ?_) g1 nk' na' hka (SortsAt.data (s := t) hk' hal hsk hu) hsz hZ fun h3 tk3 c k3 n3 => ?_
    · by_cases z : b = kS
      · rw [z, g1] at q; cases q
      · rw [← g2 b z]; exact q
    · exact h t _ h3 tk3 _ c jt (fun b o h1 h2 q => k3 b o h1 (by rw [g2 b h2]; exact q)) n3 ⟨t.heap, kA.toList, hal, rfl, hk'⟩
theorem treeJ {f : Value} {n : Nat} (ho : s.heap.get? a = some (seqObj "list" vs.toArray n)) (hlen : kz.length = vs.length) (hZ : vs.length ≤ sizeLine) (hal : AllAlike kz) (hsk : Sortable kz) (hu : ∀ d, d ∈ kz → A.units + d.depth < cLine)
    (J : Addr → Nat → Shared → List Value → Prop) (br : ∀ kS, s.heap.objs.size ≤ kS → kS ≠ a → Bears (J kS) a kS) (j0 : ∀ kS h' tk, s.heap.objs.size ≤ kS → kS ≠ a → (∀ b o, b ≠ a → s.heap.get? b = some o → h'.get? b = some o) → (∃ o, h'.get? a = some o) → (∃ o, h'.get? kS = some o) → J kS 0 { s with heap := h', toks := tk } [])
    (turn : ∀ (kS : Addr) (i : Nat) (v : Value) (t : Shared) (us : List Value), s.heap.objs.size ≤ kS → kS ≠ a → vs[i]? = some v → us.length = i → J kS i t us → (∃ o, t.heap.get? a = some o) → (∃ o, t.heap.get? kS = some o) → wpAny (model prog w) A (call f [v]) (fun u t' => J kS (i + 1) t' (us ++ [u]) ∧ Same2 a kS t t') (fun _ _ => False) t)
    (rd : ∀ kS t us, J kS vs.length t us → EachIs (fun u k => Reads t.heap u k []) us kz)
    (h : ∀ kS t us h' tk out c, s.heap.objs.size ≤ kS → kS ≠ a → J kS vs.length t us → (∀ b o, b ≠ a → b ≠ kS → t.heap.get? b = some o → h'.get? b = some o) → h'.get? a = some (seqObj "list" (List.toArray out) c) → KeyedOut false kz vs out → P (.done (.ret .none)) { t with heap := h', toks := tk }) :
    wpAny (model prog w) A (ksk_tree a f false) P E s := by
  have ha : a < s.heap.objs.size := Heap.lt_size ho
  obtain ⟨e1, ho1⟩ : ∃ e1, (s.heap.update a (Obj.mapSeq fun _ => (#[] : Array Value))).get? a = some (seqObj "list" #[] e1) := ⟨_, get?_update_seq ho fun _ => #[]⟩
  have hS : ((s.heap.update a (Obj.mapSeq fun _ => (#[] : Array Value))).push (seqObj "tuple" vs.toArray 0)).objs.size = s.heap.objs.size + 1 := by rw [size_push', Heap.size_update]
  unfold ksk_tree
  refine wpAny_bind (listItems_at ho rfl ?_)
  refine wpAny_bind (listUpdate_at ho rfl ?_ (by rw [List.size_toArray]; exact hZ) (Nat.zero_le _))
  refine wpAny_bind (seqEpoch_at ho1 rfl ?_)
  refine wpAny_bind (wpAny_newTuple ?_ (by show vs.length ≤ _; exact hZ))
  refine wpAny_bind (wpAny_newList ?_ (Nat.zero_le _))
  refine wpAny_holding ?_
  have hge : s.heap.objs.size ≤ ((s.heap.update a (Obj.mapSeq fun _ => (#[] : Array Value))).push (seqObj "tuple" vs.toArray 0)).objs.size := by rw [hS]; exact Nat.le_succ _
  have hne : ((s.heap.update a (Obj.mapSeq fun _ => (#[] : Array Value))).push (seqObj "tuple" vs.toArray 0)).objs.size ≠ a := by rw [hS]; exact Nat.ne_of_gt (Nat.lt_succ_of_lt ha)
  have nk : (((s.heap.update a (Obj.mapSeq fun _ => (#[] : Array Value))).push (seqObj "tuple" vs.toArray 0)).push (seqObj "list" #[] 0)).get? ((s.heap.update a (Obj.mapSeq fun _ => (#[] : Array Value))).push (seqObj "tuple" vs.toArray 0)).objs.size = some (seqObj "list" #[] 0) := Heap.get?_push_size _ rfl
  have na : (((s.heap.update a (Obj.mapSeq fun _ => (#[] : Array Value))).push (seqObj "tuple" vs.toArray 0)).push (seqObj "list" #[] 0)).get? a = some (seqObj "list" #[] e1) := Heap.get?_push_of_some _ (Heap.get?_push_of_some _ ho1)
  refine restJ (kz := kz) (s := { s with heap := ((s.heap.update a (Obj.mapSeq fun _ => (#[] : Array Value))).push (seqObj "tuple" vs.toArray 0)).push (seqObj "list" #[] 0) }) (J _) (br _ hge hne) nk na hne hlen hZ hal hsk hu
    (j0 _ _ s.toks hge hne (fun b o hb q => Heap.get?_push_of_some _ (Heap.get?_push_of_some _ ((Heap.get?_update_ne _ _ _ _ hb).trans q))) ⟨_, na⟩ ⟨_, nk⟩) (fun i v t us h1 h2 h3 h4 h5 => turn _ i v t us hge hne h1 h2 h3 h4 h5) (rd _) fun t us h' tk out c h1 h2 h3 h4 => h _ t us h' tk out c hge hne h1 h2 h3 h4
end
end SK
/-! Z13: sorted(.., key=lambda y: e), the key read in the very state -/
namespace QL
open PySem PySem.Spec PyProof.Rows L2 LamX
open PySem.W (EachIs AllAlike dataLe)
/-- one parameter y; else captured names and globals -/
structure LamP (sc scope : Scope) (y : Str) : Prop where
  kind : scope.kind = .function
  co : scope.isCoroutine = false
  gen : scope.isGenerator = false
  own : ∀ z ∈ scope.names, z.2 ≠ .cell ∧ (z.2 = .local → z.1 = y)
  par : scope.names.lookup y = some .local
  nov : ∀ z ∈ scope.names, z.1 ≠ ""
  free : ∀ z ∈ scope.names, z.2 = .free → sc.names.lookup z.1 = some .cell ∨ sc.names.lookup z.1 = some .free
def lamPB (sc scope : Scope) (y : Str) : Bool :=
  decide (scope.kind = .function) && !scope.isCoroutine && !scope.isGenerator && decide (scope.names.lookup y = some .local) && scope.names.all fun z => !decide (z.1 = "") && (!decide (z.2 = .cell) && (!decide (z.2 = .local) || decide (z.1 = y)) && (!decide (z.2 = .free) || decide (sc.names.lookup z.1 = some .cell) || decide (sc.names.lookup z.1 = some .free)))
theorem lamP_by {sc scope : Scope} {y : Str} (h : lamPB sc scope y = true) : LamP sc scope y := by
  unfold lamPB at h
  simp only [Bool.and_eq_true, Bool.or_eq_true, Bool.not_eq_true', decide_eq_true_eq, decide_eq_false_iff_not, List.all_eq_true] at h
  obtain ⟨⟨⟨⟨h1, h2⟩, h3⟩, h5⟩, h4⟩ := h
  refine ⟨h1, h2, h3, fun z hz => ⟨(h4 z hz).2.1.1, fun e => (h4 z hz).2.1.2.elim (fun q => absurd e q) id⟩, h5, fun z hz => (h4 z hz).1, fun z hz e => ?_⟩
  rcases (h4 z hz).2.2 with (q | q) | q
  · exact absurd e q
  · exact .inl q
  · exact .inr q
theorem LamP.has {X : Cx} {scope : Scope} {y : Str} (L : LamP X.env.scope scope y) (ok : X.Ok) : ∀ z ∈ scope.names, z.2 = .free → ∃ c, X.env.cells.lookup z.1 = some c := fun z hz e => by
  rcases L.free z hz e with k | k
  · exact ok.has _ (.inl k)
  · exact ok.has _ (.inr k)
/-- the names with y hidden -/
def hide (y z : Str) : Str := if z = y then "" else z
/-- the context of the lambda's body; its parameter stands last -/
def lamCxP (X : Cx) (A : Around) (outer : List Env) (s : Shared) (H : Hp) (E : XK) (scope : Scope) (f c' : Addr) (y : Str) : Cx := { lamCx X A outer s H E scope f c' with N := X.N.map (hide y) ++ [y] }
section
variable {X : Cx} {pins : List (Addr × Obj)} {σ : L2.St} {H HZ : Hp} {s s1 : Shared}
theorem lam_startP {A : Around} {outer : List Env} {E : XK} {scope : Scope} {f c' : Addr} {h₁ : Heap} {tk : Nat} {y : Str} {v : V} {u : Value} (I : Inv X pins σ H s) (L : LamP X.env.scope scope y) (ru : RelV v u)
    (e0 : Env0 X.prog X.w X.K X.mg X.base A outer s H) (hd : A.handled = none) (hns : h₁.Ns s.heap.objs.size fun z => ([(y, u)] : List (Str × Value)).reverse.lookup z) (kp : ∀ b o, s.heap.get? b = some o → h₁.get? b = some o) :
    Inv (lamCxP X A outer s H E scope f c' y) [] (σ ++ [some v]) H { s with heap := h₁, toks := tk } := by
  have hfree := L.has I.ok
  have cm : ∀ {y c}, (cloFrom X.env.cells scope.names []).lookup y = some c → X.env.cells.lookup y = some c := fun {y c} e => by
    rcases cloFrom_mem (PySem.mem_of_lookup e) with hm | ⟨h1, h2⟩
    · cases hm
    · obtain ⟨c1, hc⟩ := hfree _ h1 rfl
      have hc : X.env.cells.lookup y = some c1 := hc
      have e2 : c = c1 := by rw [h2, hc] <;> rfl
      rw [e2]
      exact hc
  have look : ∀ {y}, scope.names.lookup y = some .free → ∃ c, (cloFrom X.env.cells scope.names []).lookup y = some c := fun {y} hl => by
    have hz : (y, NameKind.free) ∈ scope.names := PySem.mem_of_lookup hl
    exact mem_lookup (cloFrom_has (cells := X.env.cells) (acc := []) hz)
  have noA : ∀ b : Addr, b ∉ (lamCxP X A outer s H E scope f c' y).ex := fun b z => absurd (show b ∈ ([] : List Addr) from z) (by simp)
  refine ⟨⟨e0.mod, L.kind, rfl, rfl, Nat.le_refl _, fun y z c e1 e2 => I.ok.inj y z c (cm e1) (cm e2), fun z hz => ?_, fun y c z _ => ?_, fun _ => hd, Around.frames_deeper e0.frames, .inr ⟨rfl, rfl⟩, fun b z => absurd z (noA b), e0.bs, e0.bsz, fun b _ _ => noA b,
      fun b z => absurd z (noA b), e0.funs, e0.frf⟩,
    rfl, e0.bare, Un.kept kp, ⟨_, hns, fun i z x e1 e2 e3 => ?_⟩, fun y c e => ?_, e0.hok.fresh (Nat.le_refl _), fun y c e => ?_, fun q hq => absurd (show q ∈ ([] : List (Addr × Obj)) ++ [] from hq) (by simp), e0.hok.kept kp, ?_⟩
  · have hz : scope.names.lookup z = some .cell ∨ scope.names.lookup z = some .free := hz
    rcases hz with hz | hz
    · exact absurd rfl (L.own _ (PySem.mem_of_lookup hz)).1
    · exact look hz
  · have z : false = true := z
    cases z
  · have e3 : Vis scope z := e3
    have q1 : (X.N.map (hide y) ++ [y])[i]? = some z := e1
    clear e1
    have hl := I.len
    by_cases hi : i < X.N.length
    · rw [List.getElem?_append_left (by rw [List.length_map]; exact hi), List.getElem?_map] at q1
      rw [List.getElem?_append_left (by rw [hl]; exact hi)] at e2
      have q2 : X.N[i]? = some z ∧ z ≠ y := by
        cases hq : X.N[i]? with
        | none => rw [hq] at q1; cases q1
        | some z0 =>
          rw [hq] at q1
          have q3 : hide y z0 = z := Option.some.inj q1
          unfold hide at q3
          by_cases h0 : z0 = y
          · rw [if_pos h0] at q3
            have hm : ∃ kd, (z, kd) ∈ scope.names := by
              rcases e3 with k | k | k <;> exact ⟨_, PySem.mem_of_lookup k⟩
            obtain ⟨kd, hm⟩ := hm
            exact absurd q3.symm (L.nov _ hm)
          · rw [if_neg h0] at q3
            rw [q3] at h0 ⊢
            exact ⟨rfl, h0⟩
      obtain ⟨q1, nzy⟩ := q2
      rcases e3 with k | k | k
      · have ez : z = y := (L.own _ (PySem.mem_of_lookup k)).2 rfl
        exact absurd ez nzy
      · exact absurd rfl (L.own _ (PySem.mem_of_lookup k)).1
      · obtain ⟨m, hn, hloc⟩ := I.loc
        have hvis : Vis X.env.scope z := (L.free _ (PySem.mem_of_lookup k) rfl).elim (fun k => .inr (.inl k)) (fun k => .inr (.inr k))
        obtain ⟨w', r, q⟩ := hloc i z x q1 e2 hvis
        obtain ⟨c2, h2⟩ := look k
        refine ⟨w', r, .inr ⟨.inr k, c2, h2, ?_⟩⟩
        have c1 := cm h2
        rcases q with ⟨k', _⟩ | ⟨_, c3, e', z⟩
        · have k' : X.env.scope.names.lookup _ = some .local := k'
          rcases L.free _ (PySem.mem_of_lookup k) rfl with k2 | k2 <;> rw [show X.env.scope.names.lookup _ = _ from k2] at k' <;> cases k'
        · rw [c1] at e'
          cases e'
          obtain ⟨o, ho, hd⟩ := z
          exact ⟨o, kp _ _ ho, hd⟩
    · rw [List.getElem?_append_right (by rw [List.length_map]; omega), List.length_map] at q1
      rw [List.getElem?_append_right (by omega)] at e2
      have hi0 : i - X.N.length = 0 := by
        cases hq : i - X.N.length with
        | zero => rfl
        | succ n => rw [hq] at q1; simp at q1
      rw [hl, hi0] at e2
      rw [hi0] at q1
      simp at q1 e2
      subst q1
      subst e2
      exact ⟨u, ru, .inl ⟨L.par, by simp⟩⟩
  · obtain ⟨w', o, ho, hd⟩ := I.cell y c (cm e)
    exact ⟨w', o, kp _ _ ho, hd⟩
  · exact I.freeC y c (cm e)
  · show (σ ++ [some v]).length = (X.N.map (hide y) ++ [y]).length
    rw [List.length_append, List.length_append, List.length_map, I.len]
    rfl
/-- f(u), f the lambda -/
theorem key_call {A : Around} {params : Arguments} {body : Expr} {scope : Scope} {f c' : Addr} {pm ctv : Value} {y : Str} {k : Nat} {tb : TE} {v : V} {u : Value} {Q : VK} (I : Inv X pins σ H s) (L : LamP X.env.scope scope y)
    (hf : s.heap.get? f = some (PySem.W.kla_obj "<lambda>" (X.env.qual ++ "<lambda>") params body scope (cloFrom X.env.cells scope.names []) pm c' ctv)) (hc : H c' = some (CodeO c' (X.env.qual ++ "<lambda>")))
    (hbind : bindArgs (PySem.W.kla_fn "<lambda>" (X.env.qual ++ "<lambda>") params body scope (cloFrom X.env.cells scope.names []) pm (.ref c') ctv) ⟨[u], []⟩ = pure [(y, u)])
    (hr : Room (k + 1) A) (hA : A.frames = X.A.frames) (hbody : ∀ (outer : List Env) (s : Shared) (H : Hp), Room k (A.deeper (lamEnv X scope s.heap.objs.size f c')) → PE (lamCxP X A outer s H C8.E0 scope f c' y) body tb)
    (ru : RelV v u) (ht : tb (σ ++ [some v]) H Q) :
    wpAny (model X.prog X.w) A (call (.ref f) [u]) (fun r t => ∃ x H', Inv X pins σ H' t ∧ RelV x r ∧ Q x H' ∧ Un (frs X.stack) [] H H' s.heap t.heap) (fun _ _ => False) s := by
  obtain ⟨⟨oc, vs, tt, hoc, hdc, hvc⟩, _, _⟩ := I.hok c' _ hc
  have e0 : Env0 X.prog X.w X.K X.mg X.base A X.stack s H := { I.env0 with frames := hA.trans I.env0.frames }
  have rc : codeAny (model X.prog X.w) A (.call (.ref f) ⟨[u], []⟩) (CR (L2.CX X.prog X.w) X.stack X.prog X.w H s Q C8.E0) s := by
    refine PySem.W.kla_callFunE hr.depth hf rfl L.co L.gen rfl ⟨c', oc, vs, tt, rfl, hoc, hdc, hvc⟩ ?_
    rw [hbind]
    refine wpAny_pure (wpAny_newFunctionEnv (fun z hz => (L.own z hz).1) (fun z hz => ?_) (fun h₁ hns hsb => ⟨I.nolimit.fresh _ hsb, ?_⟩) L.kind)
    · rw [List.mem_singleton.mp hz]
      exact L.par
    show codeAny _ _ (.expr body (lamEnv X scope s.heap.objs.size f c')) _ _
    have kp : ∀ b o, s.heap.get? b = some o → h₁.get? b = some o := fun b o e => hsb.extBut b o (Nat.ne_of_lt (Heap.lt_size e)) (Heap.get?_push_of_some _ e)
    have J : Inv (lamCxP X A X.stack s H C8.E0 scope f c' y) [] (σ ++ [some v]) H { s with heap := h₁, toks := s.toks + ([(y, u)] : List (Str × Value)).length } :=
      lam_startP I L ru e0 hr.hd hns kp
    refine PySem.W.kla_codeExpr (wpAny_mono ((hbody X.stack s H (hr.deeper _)).run [] _ _ H Q J ht) (fun v s' hq => ?_) fun e s' hq => hq)
    obtain ⟨w', H', J', rv, q⟩ := hq
    exact ⟨w', H', J'.os, J'.bare, J'.base, J'.hok, rv, q⟩
  refine wpAny_call (codeAny_mono rc fun r s' hq => ?_)
  cases r with
  | error e =>
    obtain ⟨_, _, _, _, _, _, _, _, _, _, _, _, z⟩ := hq
    exact z.elim
  | ok fl =>
    cases fl with
    | ret u =>
      obtain ⟨x, H', os, bare, un, hok, rv, q⟩ := hq
      obtain ⟨x2, H2, I2, _, e1, e2⟩ := I.after (Q := fun x2 H2 => x2 = x ∧ H2 = H') ⟨x, H', os, bare, un, hok, rv, rfl, rfl⟩
      subst e1
      subst e2
      exact ⟨_, _, I2, rv, q, un⟩
    | next => exact False.elim hq
    | brk => exact False.elim hq
    | cont => exact False.elim hq
/-- a new address, out of reach of what is tracked -/
structure FrA (X : Cx) (pins : List (Addr × Obj)) (a : Addr) : Prop where
  base : X.s_0.heap.objs.size ≤ a
  loc : a ≠ X.env.locals
  cell : ∀ x c, X.env.cells.lookup x = some c → c ≠ a
  pin : ∀ p ∈ X.pn ++ pins, p.1 ≠ a
  fs : a ∉ frs X.stack
theorem frA_of {a : Addr} (I : Inv X pins σ H s) (h : s.heap.objs.size ≤ a) : FrA X pins a := by
  refine ⟨Nat.le_trans I.sz h, Nat.ne_of_gt (Nat.lt_of_lt_of_le I.lt h), fun x c e => ?_, fun p hp => ?_, fun z => ?_⟩
  · obtain ⟨v, o, ho, _⟩ := I.cell x c e
    exact Nat.ne_of_lt (Nat.lt_of_lt_of_le (Heap.lt_size ho) h)
  · exact Nat.ne_of_lt (Nat.lt_of_lt_of_le (Heap.lt_size (I.pin p hp).1) h)
  · rcases List.mem_cons.mp (I.stkSub _ z) with e | e
    · have h1 := I.lt
      rw [← e] at h1
      exact Nat.lt_irrefl _ (Nat.lt_of_lt_of_le h1 h)
    · exact I.nofs h e
/-- two objects that nothing tracks are written -/
theorem inv_two {a b : Addr} {h' : Heap} {tk : Nat} (I : Inv X pins σ H s) (fa : FrA X pins a) (fb : FrA X pins b) (na : H a = none) (nb : H b = none) (k : ∀ d o, d ≠ a → d ≠ b → s.heap.get? d = some o → h'.get? d = some o) :
    Inv X pins σ H { s with heap := h', toks := tk } := by
  have k1 : ∀ d o, d ∉ [a, b] → s.heap.get? d = some o → h'.get? d = some o := fun d o n e => k d o (fun z => n (by simp [z])) (fun z => n (by simp [z])) e
  refine I.step (g' := s.gens) (d' := s.drawn) (ch := [a, b]) (fun d hd => ?_) (fun d o _ _ n e _ => k1 d o n e) (fun d o _ _ n e _ => ⟨o.slots, k1 d o n e⟩) (fun d o _ _ n => n) (fun d o n e => ⟨o, k1 d o n e⟩) (fun _ _ e => e) (fun _ _ _ e => e) (fun d ps e => ⟨#[], by simpa using e⟩)
    (fun m hn => ?_) (fun d u e => ?_) I.bare
  · rcases List.mem_cons.mp hd with e | e
    · rw [e]; exact ⟨.inr fa.base, fa.loc, fa.cell, fa.pin⟩
    · rw [List.mem_singleton.mp e]; exact ⟨.inr fb.base, fb.loc, fb.cell, fb.pin⟩
  · obtain ⟨ob, es, ep, ho, r⟩ := hn
    exact ⟨ob, es, ep, k _ ob fa.loc.symm fb.loc.symm ho, r⟩
  · have ne : ∀ c, H c ≠ none → c ≠ a ∧ c ≠ b := fun c hc => ⟨fun z => hc (by rw [z]; exact na), fun z => hc (by rw [z]; exact nb)⟩
    refine (I.hok d u e).stay (fun c v hc q => ?_) (fun _ q => q) fun _ _ q => q
    have := ne c (by
      rcases hc with z | z
      · rw [z, e]; simp
      · rw [z]; simp)
    exact k c v this.1 this.2 q
/-- an object that nothing tracked is tracked from now on -/
theorem inv_know {a : Addr} {o : HO} (I : Inv X pins σ H s) (fa : FrA X pins a) (na : H a = none) (new : ObjOk X.prog X.w (upd H a o) s.heap a o) : Inv X pins σ (upd H a o) s := by
  have up : ∀ c (u : HO), H c = some u → upd H a o c = some u := fun c u e => by rw [upd_ne (ne_of_none e na)]; exact e
  refine I.step (h' := s.heap) (t' := s.toks) (g' := s.gens) (d' := s.drawn) (ch := [a]) (fun d hd => ?_) (fun d o _ _ n e _ => e) (fun d o _ _ n e _ => ⟨o.slots, e⟩) (fun d o' n _ e => by rw [upd_ne (fun z => n (by simp [z]))]; exact e) (fun d o n e => ⟨o, e⟩) (fun _ _ e => up _ _ e) (fun _ _ _ e => up _ _ e) (fun d ps e => ⟨#[], by simpa using up _ _ e⟩)
    (fun m hn => hn) (fun d u e => ?_) I.bare
  · rw [List.mem_singleton.mp hd]; exact ⟨.inr fa.base, fa.loc, fa.cell, fa.pin⟩
  · by_cases hd : d = a
    · subst hd; rw [upd_same] at e; cases e; exact new
    · rw [upd_ne hd] at e
      exact (I.hok d u e).stay (fun _ _ _ q => q) (fun c q => up _ _ q) fun c xs q => up _ _ q
end
end QL
namespace QL
open PySem PySem.Spec PyProof.Rows L2 LamX
open PySem.W (EachIs AllAlike Sortable dataLe)
/-- numbers and texts as keys -/
inductive KAt : V → PyData → Prop
  | int {n} : KAt (.int n) (.int n)
  | str {x} : KAt (.str x) (.str x)
/-- a key: a number, a text, a tuple of these -/
def KeyV (K : PySem.W.Frag) (H : Hp) (v : V) (d : PyData) : Prop := KAt v d ∨ ∃ a xs ds, v = .ref a ∧ d = .tuple ds ∧ SqT K H a xs ∧ Paired KAt xs ds
def KeyU (K : PySem.W.Frag) (H : Hp) (u : Value) (d : PyData) : Prop := ∃ v, RelV v u ∧ KeyV K H v d
theorem KAt.reads {h : Heap} {v : V} {d : PyData} {u : Value} (k : KAt v d) (r : RelV v u) : Reads h u d [] := by
  cases k with
  | int => obtain ⟨t, rfl⟩ := r; exact .int _ t
  | str => obtain ⟨t, rfl⟩ := r; exact .str _ t
theorem kats_reads {h : Heap} : ∀ {xs : List V} {ds : List PyData} {us : List Value}, Paired KAt xs ds → Vals xs us → ReadsAll h us ds []
  | _, _, _, .nil, .nil => .nil
  | _, _, _, .cons k t, .cons r s => .cons (k.reads r) (kats_reads t s)
theorem sqT_un {K : PySem.W.Frag} {fs ex : List Addr} {H H' : Hp} {h h' : Heap} {a : Addr} {xs : List V} (u : Un fs ex H H' h h') (s : SqT K H a xs) : SqT K H' a xs := by
  rcases s with (e | ⟨o, e⟩) | s
  · exact .inl (.inl (u.tups _ _ e))
  · exact .inl (.inr ⟨o, u.frzs _ _ _ e⟩)
  · exact .inr s
theorem keyU_un {K : PySem.W.Frag} {fs ex : List Addr} {H H' : Hp} {h h' : Heap} {u : Value} {d : PyData} (n : Un fs ex H H' h h') (k : KeyU K H u d) : KeyU K H' u d := by
  obtain ⟨v, r, k | ⟨a, xs, ds, e1, e2, e3, e4⟩⟩ := k
  · exact ⟨v, r, .inl k⟩
  · exact ⟨v, r, .inr ⟨a, xs, ds, e1, e2, sqT_un n e3, e4⟩⟩
theorem each_at {α β : Type} {R : α → β → Prop} : ∀ {as : List α} {bs : List β} {i : Nat} {x : α}, EachIs R as bs → as[i]? = some x → ∃ y, bs[i]? = some y ∧ R x y
  | _, _, i, _, .nil, e => by simp at e
  | _, _, 0, _, .cons h _, e => by simp at e; subst e; exact ⟨_, rfl, h⟩
  | _, _, i + 1, x, .cons _ t, e => by
    obtain ⟨y, h1, h2⟩ := each_at (i := i) (x := x) t (by simpa using e)
    exact ⟨y, by simpa using h1, h2⟩
theorem each_vals {β : Type} {enc : β → V} : ∀ {us : List Value} {bs : List β}, EachIs (fun u b => RelV (enc b) u) us bs → Vals (bs.map enc) us
  | _, _, .nil => .nil
  | _, _, .cons h t => .cons h (each_vals t)
section
variable {X : Cx} {pins : List (Addr × Obj)} {σ : L2.St} {H : Hp} {s : Shared} {β : Type}
theorem keyU_reads {t : Shared} {u : Value} {d : PyData} (I : Inv X pins σ H t) (k : KeyU X.K H u d) : Reads t.heap u d [] := by
  obtain ⟨v, r, k | ⟨a, xs, ds, rfl, rfl, e3, e4⟩⟩ := k
  · exact k.reads r
  · obtain rfl : u = .ref a := r
    obtain ⟨its, rv, ⟨o, ho, hc, n, hd⟩, _⟩ := I.tuple e3
    exact reads_tuple_at ho hc hd (by simpa using kats_reads e4 rv)
/-- xs.sort(key=f), xs a list that nothing tracks yet -/
theorem sort_core {A : Around} {E : Value → Shared → Prop} {params : Arguments} {body : Expr} {scope : Scope} {f c' a : Addr} {pm ctv : Value} {y : Str} {n : Nat} {tb : TE} {us : List Value} {bs : List β} {enc : β → V} {k : β → PyData} {JJ : Nat → Hp → Prop} {Q : Hp → Prop} {ep : Nat}
    (I : Inv X pins σ H s) (L : LamP X.env.scope scope y)
    (hf : s.heap.get? f = some (PySem.W.kla_obj "<lambda>" (X.env.qual ++ "<lambda>") params body scope (cloFrom X.env.cells scope.names []) pm c' ctv)) (hfn : H f = none) (hfr : f ∉ frs X.stack) (hfa : f ≠ a)
    (hbind : ∀ u, bindArgs (PySem.W.kla_fn "<lambda>" (X.env.qual ++ "<lambda>") params body scope (cloFrom X.env.cells scope.names []) pm (.ref c') ctv) ⟨[u], []⟩ = pure [(y, u)])
    (hr : Room (n + 1) A) (hA : A.frames = X.A.frames) (hbody : ∀ (A : Around) (outer : List Env) (s : Shared) (H : Hp), Room n (A.deeper (lamEnv X scope s.heap.objs.size f c')) → PE (lamCxP X A outer s H C8.E0 scope f c' y) body tb)
    (rv : EachIs (fun u b => RelV (enc b) u) us bs) (ho : s.heap.get? a = some (seqObj "list" us.toArray ep)) (na : H a = none) (fa : FrA X pins a) (hz : bs.length ≤ sizeLine) (hal : AllAlike (bs.map k)) (hsk : Sortable (bs.map k)) (hd : ∀ b ∈ bs, (k b).depth ≤ 100)
    (hc : ∀ i H, JJ i H → H c' = some (CodeO c' (X.env.qual ++ "<lambda>"))) (j0 : JJ 0 H) (turn : ∀ i b H, bs[i]? = some b → JJ i H → tb (σ ++ [some (enc b)]) H (fun x H' => KeyV X.K H' x (k b) ∧ JJ (i + 1) H'))
    (fin : ∀ H', JJ bs.length H' → H' a = none → Q (upd H' a (.lst ((bs.mergeSort (dataLe false k)).map enc)))) :
    wpAny (model X.prog X.w) A (ksk_tree a (.ref f) false) (fun fl t => fl = .done (.ret .none) ∧ ∃ H', Inv X pins σ H' t ∧ Q H') E s := by
  have hul : us.length = bs.length := rv.length
  have hfl : f < s.heap.objs.size := Heap.lt_size hf
  refine SK.treeJ (kz := bs.map k) ho (by rw [List.length_map, hul]) (by rw [hul]; exact hz) hal hsk (fun d hdm => ?_)
    (fun kS i t ks => ∃ Hi, Inv X pins σ Hi t ∧ Hi a = none ∧ Hi kS = none ∧ FrA X pins kS ∧ f ≠ kS ∧ t.heap.get? f = some (PySem.W.kla_obj "<lambda>" (X.env.qual ++ "<lambda>") params body scope (cloFrom X.env.cells scope.names []) pm c' ctv) ∧ Hi f = none ∧ JJ i Hi ∧ EachIs (KeyU X.K Hi) ks ((bs.map k).take i))
    (fun kS h1 h2 i t ks h' tk hj kk => ?bear) (fun kS h' tk h1 h2 kk _ _ => ?start) (fun kS i v t ks h1 h2 hv hl hj hoa hok => ?turn) (fun kS t ks hj => ?rd) fun kS t ks h' tk out c h1 h2 hj kk hD ko => ?fin
  · obtain ⟨b, hb, rfl⟩ := List.mem_map.mp hdm
    have := hd b hb
    have := hr.un
    omega
  case bear =>
    obtain ⟨Hi, I1, n1, n2, fk, hfk, g1, g2, j, ek⟩ := hj
    exact ⟨Hi, inv_two I1 fa fk n1 n2 kk, n1, n2, fk, hfk, kk _ _ hfa hfk g1, g2, j, ek⟩
  case start =>
    have fk := frA_of I h1
    have hfk : f ≠ kS := Nat.ne_of_lt (Nat.lt_of_lt_of_le hfl h1)
    exact ⟨H, inv_two I fa fk na (I.hok.fresh h1) (fun d o n1 _ e => kk d o n1 e), na, I.hok.fresh h1, fk, hfk, kk _ _ hfa hf, hfn, j0, by rw [List.take_zero]; exact .nil⟩
  case turn =>
    obtain ⟨Hi, I1, n1, n2, fk, hfk, g1, g2, j, ek⟩ := hj
    obtain ⟨oa, hoa⟩ := hoa
    obtain ⟨ok, hok⟩ := hok
    obtain ⟨b, hb, rb⟩ := each_at rv hv
    refine wpAny_mono (key_call I1 L g1 (hc _ _ j) (hbind v) hr hA (fun outer s H h => hbody A outer s H h) rb (turn i b Hi hb j)) (fun u t' hq => ?_) fun _ _ z => z
    obtain ⟨x, H', I2, rx, ⟨kx, j2⟩, un⟩ := hq
    have hbl : i < bs.length := (List.getElem?_eq_some_iff.mp hb).1
    refine ⟨⟨H', I2, un.free _ _ hoa n1 (by simp), un.free _ _ hok n2 (by simp), fk, hfk, un.keep _ _ g1 g2 hfr (by simp), un.free _ _ g1 g2 (by simp), j2, ?_⟩, fun d o hd e => ?_⟩
    · have ee : (bs.map k).take (i + 1) = (bs.map k).take i ++ [k b] := by rw [List.take_add_one, List.getElem?_map, hb]; rfl
      rw [ee]
      exact PySem.W.each_snoc ⟨x, rx, kx⟩ (ek.mono fun _ _ q => keyU_un un q)
    · rcases hd with z | z
      · rw [z] at e ⊢; exact un.keep _ _ e n1 fa.fs (by simp)
      · rw [z] at e ⊢; exact un.keep _ _ e n2 fk.fs (by simp)
  case rd =>
    obtain ⟨Hi, I1, n1, n2, fk, hfk, g1, g2, j, ek⟩ := hj
    rw [hul, ← List.length_map (f := k), List.take_length] at ek
    exact ek.mono fun _ _ q => keyU_reads I1 q
  case fin =>
    obtain ⟨Hi, I1, n1, n2, fk, hfk, g1, g2, j, ek⟩ := hj
    rw [hul] at j
    have I2 := inv_two (tk := tk) I1 fa fk n1 n2 kk
    have eo := PySem.W.keyedOut_each k ko rv
    have hol : ((bs.mergeSort (dataLe false k)).map enc).length ≤ sizeLine := by rw [List.length_map, List.length_mergeSort]; exact hz
    exact ⟨rfl, _, inv_know (o := .lst ((bs.mergeSort (dataLe false k)).map enc)) I2 fa n1 ⟨hol, out, c, each_vals eo, hD⟩, fin _ j n1⟩
end
end QL
namespace QL
open PySem PySem.Spec PyProof.Rows L2 LamX
open PySem.W (EachIs AllAlike Sortable dataLe)
/-- range(e), told that it is a new object -/
def PRgF (X : Cx) (e : Expr) (t : L2.St → Hp → (Int → Hp → Prop) → Prop) : Prop :=
  ∀ (pins : List (Addr × Obj)) (s : Shared) (σ : L2.St) (H : Hp) (Q : Int → Hp → Prop), Inv X pins σ H s → t σ H Q →
    wpAny (model X.prog X.w) X.A (eval e X.env) (fun x s' => ∃ r n t u v H', x = .ref r ∧ IsRange s'.heap r 0 n 1 t u v ∧ Inv X pins σ H' s' ∧ H' r = none ∧ r ≠ X.env.locals ∧ r ∉ X.fs ∧ Q n H') X.xe s
def tRgF (ta : TE) : L2.St → Hp → (Int → Hp → Prop) → Prop := fun σ H Q => ta σ H fun x H1 => ∃ n, x = .int n ∧ Q n H1
section
variable {X : Cx} {a : Expr} {ta : TE}
theorem prgf {p pos : Pos} (hg : Gl X "range") (hm : X.mg "range" = none) (ha : PE X a ta) (na : starEach [a] X.env = (false, eval a X.env) :: starEach [] X.env := by rfl) : PRgF X (.Call (.Name "range" p) [a] [] pos) (tRgF ta) := by
  intro pins s σ H Q I h
  refine Call_ (ld_blt I hg hm boot_range (PyProof.Rows.callWith_type1 (one_arg ha I h (fun v s2 x H2 I2 r q => ?_) na) na))
  obtain ⟨n, rfl, q⟩ := q
  obtain ⟨t, rfl⟩ := r
  exact call_range_1 ⟨_, n, _, _, _, H2, rfl, IsRange.new _ _ _ _ _ _ _, I2.kept fun b u e => Heap.get?_push_of_some _ e, I2.hok.fresh (Nat.le_refl _), (frA_of I2 (Nat.le_refl _)).loc, I2.nofs (Nat.le_refl _), q⟩
end
/-- what is asked of the keys and of what comes behind -/
def SortAsk {β : Type} (K : PySem.W.Frag) (c' : Addr) (q : Str) (bs : List β) (enc : β → V) (tb : TE) (σ : L2.St) (H2 : Hp) (Q : VK) : Prop :=
  ∃ (k : β → PyData) (JJ : Nat → Hp → Prop), AllAlike (bs.map k) ∧ Sortable (bs.map k) ∧ (∀ b ∈ bs, (k b).depth ≤ 100) ∧ (∀ i H, JJ i H → H c' = some (CodeO c' q)) ∧ JJ 0 H2 ∧
    (∀ i b H, bs[i]? = some b → JJ i H → tb (σ ++ [some (enc b)]) H (fun x H' => KeyV K H' x (k b) ∧ JJ (i + 1) H')) ∧
    ∀ H' p, JJ bs.length H' → H' p = none → Q (.ref p) (upd H' p (.lst ((bs.mergeSort (dataLe false k)).map enc)))
/-- the lambda's making -/
def LamAsk (P : Addr) (q : Str) (H : Hp) (G : Addr → Hp → Prop) : Prop := ∃ (ps : Array Value) (Kn : Addr → Prop), H P = some (.tbl ps) ∧ Told H Kn q ps ∧ ∀ c' H2, Made H P q Kn c' H2 → H2 c' = some (CodeO c' q) → G c' H2
def nats (n : Nat) : List Int := (List.range n).map fun (i : Nat) => (i : Int)
def tSKR (K : PySem.W.Frag) (P : Addr) (q : Str) (tr : L2.St → Hp → (Int → Hp → Prop) → Prop) (tb : TE) : TE := fun σ H Q => tr σ H fun m H1 => ∃ n : Nat, m = (n : Int) ∧ n ≤ 2 ^ 24 ∧
  LamAsk P q H1 fun c' H2 => SortAsk K c' q (nats n) V.int tb σ H2 Q
section
variable {X : Cx} {pins : List (Addr × Obj)} {σ : L2.St} {H : Hp} {s : Shared}
theorem each_nats : ∀ {us : List Value} {ns : List Int}, us.length = ns.length → (∀ (j : Nat) (u : Value) (n : Int), us[j]? = some u → ns[j]? = some n → ∃ t, u = .int n t) → EachIs (fun u (b : Int) => RelV (V.int b) u) us ns
  | [], [], _, _ => .nil
  | [], _ :: _, h, _ => by simp at h
  | _ :: _, [], h, _ => by simp at h
  | u :: us, n :: ns, h, f => .cons (f 0 u n rfl rfl) (each_nats (by simpa using h) fun j u n h1 h2 => f (j + 1) u n (by simpa using h1) (by simpa using h2))
theorem range_size (n : Nat) : Builtin.Range.rangeSize 0 (n : Int) 1 = n := by
  unfold Builtin.Range.rangeSize
  split <;> simp <;> omega
theorem range_small (n : Nat) (h : n ≤ 2 ^ 24) : Builtin.Range.small 0 (n : Int) 1 = true := by
  have fl : ∀ m : Int, 0 ≤ m → m ≤ 2 ^ 24 → Builtin.Range.rangeFitsLong m = true := fun m h1 h2 => by
    unfold Builtin.Range.rangeFitsLong
    simp
    omega
  unfold Builtin.Range.small
  rw [range_size]
  simp [fl 0 (by omega) (by omega), fl 1 (by omega) (by omega), fl (n : Int) (by omega) (by omega)]
/-- sorted(range(e), key=lambda y: body) -/
theorem pe_sortKR {e : Expr} {tr : L2.St → Hp → (Int → Hp → Prop) → Prop} {c P : Addr} {k : Nat} {params : Arguments} {body : Expr} {scope : Scope} {tb : TE} {y : Str} {p lpos kpos pos : Pos} (hg : Gl X "sorted") (hm : X.mg "sorted" = none) (hv : bootBuiltins "sorted" = some (.builtin "sorted"))
    (he : PRgF X e tr) (TB : TabB X.base X.mg c P) (hcode : X.env.code = .ref c) (hr : Room (k + 3) X.A) (L : LamP X.env.scope scope y) (hdef : defaultsOf params X.env = ([], []))
    (hbind : ∀ (q : Str) (cl : List (Str × Addr)) (pm cv ctv u : Value), bindArgs (PySem.W.kla_fn "<lambda>" q params body scope cl pm cv ctv) ⟨[u], []⟩ = pure [(y, u)])
    (hbody : ∀ (A : Around) (outer : List Env) (s : Shared) (H : Hp) (f c' : Addr), Room k (A.deeper (lamEnv X scope s.heap.objs.size f c')) → PE (lamCxP X A outer s H C8.E0 scope f c' y) body tb)
    (na : starEach [e] X.env = (false, eval e X.env) :: starEach [] X.env := by rfl) :
    PE X (.Call (.Name "sorted" p) [e] [⟨some "key", .Lambda params body scope lpos, kpos⟩] pos) (tSKR X.K P (X.env.qual ++ "<lambda>") tr tb) := by
  refine ⟨fun pins s σ H Q I h => ?_⟩
  refine wpAny_Call_Name_kw (ld_blt I hg hm hv ?_)
  refine PyProof.Rows.callWith_kw (args_cons (thn (he pins s σ H _ I h) fun v s1 hv1 => args_nil ?_) na) (by rw [na]; rfl) (by rw [na]; rfl) rfl rfl
  obtain ⟨r, m, t1, t2, t3, H1, rfl, hR, I1, nR, nL, nF, n, rfl, hn, ps, Kn, hP, hT, hG⟩ := hv1
  have I1p : Inv X ((r, _) :: pins) σ H1 s1 := ⟨I1.ok, I1.os, I1.bare, I1.base, I1.loc, I1.cell, I1.free, I1.freeC, fun p hp => by
    rcases List.mem_append.mp hp with z | z
    · exact I1.pin p (List.mem_append_left _ z)
    · rcases List.mem_cons.mp z with z | z
      · subst z
        exact ⟨hR, nR, nL, nF, fun v z => by cases z⟩
      · exact I1.pin p (List.mem_append_right _ z), I1.hok, I1.len⟩
  show wpAny _ _ (evalAll [(do let v ← eval (.Lambda params body scope lpos) X.env; standAt pos; pure v)]) _ _ s1
  refine wpAny_evalAll_cons (wpAny_bind (make3 I1p TB hcode hP hT hdef (L.has I1.ok) fun f c' pm' ctv H2 s2 I2 hM hco hf hfn hfr => wpAny_bind (wpAny_standAt (wpAny_pure (wpAny_evalAll_nil ?_)))))
  obtain ⟨kf, JJ, a1, a2, a3, a4, a5, a6, a7⟩ := hG c' H2 hM hco
  have hR2 : IsRange s2.heap r 0 (n : Int) 1 t1 t2 t3 := (I2.pin (r, _) (List.mem_append_right _ (List.mem_cons_self ..))).1
  have I2u : Inv X pins σ H2 s2 := ⟨I2.ok, I2.os, I2.bare, I2.base, I2.loc, I2.cell, I2.free, I2.freeC, fun p hp => I2.pin p (by
    rcases List.mem_append.mp hp with z | z
    · exact List.mem_append_left _ z
    · exact List.mem_append_right _ (List.mem_cons_of_mem _ z)), I2.hok, I2.len⟩
  show wpAny (model X.prog X.w) X.A (call (.builtin "sorted") [.ref r] [(Str.ofString "key", .ref f)]) _ _ s2
  have r1 : Room (k + 1 + 1) X.A.in1 := Room.in1 hr
  have r2 : Room (k + 1) X.A.in1.in1 := Room.in1 r1
  refine call_function_entry_kw kind_sorted plain_sorted entry_sorted (ksk_s1 _ _) ?_
  unfold Builtin.«sorted»
  refine wpAny_bind (m := checkCount "sorted" 1 1 _) (wpAny_pure ?_)
  refine wpAny_bind (collect_range r1.hd hR2 (range_small n hn) (range_size n) hn fun h' tk acc kk hacc => ?_)
  have hlen : acc.toList.length ≤ sizeLine := by rw [Array.length_toList, hacc.1, sizeLine_eq]; omega
  refine wpAny_bind (wpAny_newList ?_ hlen)
  have I3 : Inv X pins σ H2 { s2 with heap := h', toks := tk } := I2u.kept kk
  have I4 : Inv X pins σ H2 { s2 with heap := h'.push (seqObj "list" acc.toList.toArray 0), toks := tk } := I3.kept (t' := tk) fun b o e => Heap.get?_push_of_some _ e
  have fa := frA_of I3 (Nat.le_refl _)
  have hol : (h'.push (seqObj "list" acc.toList.toArray 0)).get? h'.objs.size = some (seqObj "list" acc.toList.toArray 0) := Heap.get?_push_size _ rfl
  have hf3 := kk _ _ hf
  show wpAny _ _ _ _ _ { s2 with heap := h'.push (seqObj "list" acc.toList.toArray 0), toks := tk }
  refine wpAny_bind (wpAny_holding (wpAny_call_entry_kw slot_list_sort ⟨_, hol, rfl⟩ entry_list_sort ?_ (ksk_l1 _ _)))
  show wpAny (model X.prog X.w) X.A.in1.in1 (Builtin.«list.sort» ⟨[.ref h'.objs.size], [(Str.ofString "key", .ref f)]⟩) _ _ _
  rw [ksk_t1]
  have rv : EachIs (fun u (b : Int) => RelV (V.int b) u) acc.toList (nats n) := each_nats (by rw [Array.length_toList, hacc.1]; simp [nats]) fun j u m hu hm => by
    obtain ⟨t, e⟩ := hacc.2 j u (by rw [← Array.getElem?_toList]; exact hu)
    have hj : (j : Int) = m := by
      unfold nats at hm
      rw [List.getElem?_map] at hm
      cases q : (List.range n)[j]? with
      | none => rw [q] at hm; cases hm
      | some i =>
        rw [q] at hm
        have : i = j := by
          have := List.getElem?_eq_some_iff.mp q
          obtain ⟨h1, h2⟩ := this
          simpa using h2.symm
        subst this
        exact Option.some.inj hm
    exact ⟨t, by rw [e, ← hj]; congr 1; omega⟩
  refine wpAny_mono (sort_core (A := X.A.in1.in1) (Q := fun H => Q (.ref h'.objs.size) H) I4 L (Heap.get?_push_of_some _ hf3) hfn hfr (Nat.ne_of_lt (Heap.lt_size hf3)) (fun u => hbind _ _ _ _ _ u) r2 rfl (fun A outer s H h => hbody A outer s H f c' h) rv hol (I3.hok.fresh (Nat.le_refl _)) fa
    (by simp [nats, sizeLine_eq]; omega) a1 a2 a3 a4 a5 a6 (fun H' j n' => a7 H' _ j n')) (fun fl t hq => ?_) fun _ _ z => z
  obtain ⟨rfl, H', I5, q⟩ := hq
  exact ⟨_, rfl, wpAny_pure ⟨_, rfl, V.ref h'.objs.size, H', I5, rfl, q⟩⟩
end
end QL
namespace Y
open PySem L2
open PySem.Spec PyProof.Rows
open Evl (Ex)
open LamX QL
open PySem.W (EachIs AllAlike Sortable dataLe)
/-! ### sorted(range(n), key=lambda y: e) -/
def atW : W → Option PyData
  | .int n => some (.int n)
  | .str s => some (.str s)
  | _ => none
def atsW : List W → Option (List PyData)
  | [] => some []
  | w :: ws => match atW w, atsW ws with
    | some d, some ds => some (d :: ds)
    | _, _ => none
def skW : W → Option PyData
  | .tup ws => (atsW ws).map PyData.tuple
  | w => atW w
theorem atsW_cons {w : W} {ws : List W} {ds : List PyData} (h : atsW (w :: ws) = some ds) : ∃ d ds', ds = d :: ds' ∧ atW w = some d ∧ atsW ws = some ds' := by
  unfold atsW at h
  cases h1 : atW w with
  | none => rw [h1] at h; cases h
  | some d =>
    cases h2 : atsW ws with
    | none => rw [h1, h2] at h; cases h
    | some ds' => rw [h1, h2] at h; cases h; exact ⟨d, ds', rfl, rfl, rfl⟩
section
variable {K : PySem.W.Frag} {Z : Zx} {H H0 : Hp}
theorem kat_of {v : V} {w : W} {d : PyData} (r : Rep K Z H0 v w) (h : atW w = some d) : KAt v d := by
  cases w with
  | int n => cases r; cases h; exact .int
  | str n => cases r; cases h; exact .str
  | _ => cases h
theorem kats_of : ∀ {vs : List V} {ws : List W} {ds : List PyData}, Reps K Z H0 vs ws → atsW ws = some ds → Paired KAt vs ds
  | _, _, _, .nil, h => by cases h; exact .nil
  | _, _, _, .cons r t, h => by
    obtain ⟨d, ds', rfl, h1, h2⟩ := atsW_cons h
    exact .cons (kat_of r h1) (kats_of t h2)
theorem key_of {v : V} {w : W} {d : PyData} (e : Ex H0 H) (r : Rep K Z H0 v w) (h : skW w = some d) : KeyV K H v d := by
  have at_ : skW w = atW w → KeyV K H v d := fun z => .inl (kat_of r (z ▸ h))
  cases w with
  | tup ws =>
    have h : (atsW ws).map PyData.tuple = some d := h
    cases q : atsW ws with
    | none => rw [q] at h; cases h
    | some ds =>
      rw [q] at h; cases h
      cases r with
      | tup hp rs => exact .inr ⟨_, _, _, rfl, rfl, Evl.ex_t e hp, kats_of rs q⟩
  | _ => exact at_ rfl
theorem sts_snoc {v : V} {w : W} (r : Rep K Z H0 v w) : ∀ {pv : List V} {σ : L2.St} {st : S} {G : Fp}, Sts K Z H0 pv σ st G → Sts K Z H0 pv (σ ++ [some v]) (st ++ [.lo (.fz w)]) G
  | _, _, _, _, .nil => .lo (G1 := []) (G2 := []) (.fz r) .nil
  | _, _, _, _, .un h => .un (sts_snoc r h)
  | _, _, _, _, .lo q h => .lo q (sts_snoc r h)
  | _, _, _, _, .mp e q h => .mp e q (sts_snoc r h)
  | _, _, _, _, .fr a b h => .fr a b (sts_snoc r h)
theorem sts_unsnoc {o : Option V} {w : W} : ∀ {pv : List V} {σ : L2.St} {st : S} {G : Fp}, Sts K Z H0 pv (σ ++ [o]) (st ++ [.lo (.fz w)]) G → Sts K Z H0 pv σ st G
  | _, [], [], _, h => by
    cases h with
    | lo q t =>
      cases q
      cases t
      exact .nil
  | _, [], _ :: st, _, h => by
    have : ∀ {pv : List V} {G : Fp} {t : S}, t ≠ [] → Sts K Z H0 pv [] t G → False := fun hn s => by cases s; exact hn rfl
    cases h <;> rename_i t <;> exact (this (by simp) t).elim
  | _, x :: σ, [], _, h => by
    have : ∀ {pv : List V} {G : Fp} {l : L2.St}, l ≠ [] → Sts K Z H0 pv l [] G → False := fun hn s => by cases s; exact hn rfl
    cases h with
    | lo q t => exact (this (by simp) t).elim
  | _, _ :: σ, _ :: st, _, h => by
    cases h with
    | un t => exact .un (sts_unsnoc t)
    | lo q t => exact .lo q (sts_unsnoc t)
    | mp e q t => exact .mp e q (sts_unsnoc t)
    | fr a b t => exact .fr a b (sts_unsnoc t)
end
/-- .. a new list of numbers -/
def lSortKR (dn d : DE) : DL := fun st k x => dn st (fun r st1 => match r with
  | .w (.int m) => ∃ (n : Nat) (kf : Nat → W) (kd : Int → PyData), m = (n : Int) ∧ n ≤ 2 ^ 24 ∧
    (∀ i, i < n → d (st1 ++ [.lo (.fz (.int (i : Int)))]) (fun r2 st2 => r2 = .w (kf i) ∧ st2 = st1 ++ [.lo (.fz (.int (i : Int)))]) (fun _ _ => False)) ∧
    (∀ i, i < n → skW (kf i) = some (kd i)) ∧ AllAlike ((nats n).map kd) ∧ Sortable ((nats n).map kd) ∧ (∀ b ∈ nats n, (kd b).depth ≤ 100) ∧
    k (((nats n).mergeSort (dataLe false kd)).map W.int) st1
  | _ => False) x
theorem nats_get {n i : Nat} {b : Int} (h : (nats n)[i]? = some b) : b = (i : Int) ∧ i < n := by
  unfold nats at h
  rw [List.getElem?_map] at h
  cases q : (List.range n)[i]? with
  | none => rw [q] at h; cases h
  | some j =>
    rw [q] at h
    obtain ⟨h1, h2⟩ := List.getElem?_eq_some_iff.mp q
    have : j = i := by simpa using h2.symm
    subst this
    exact ⟨(Option.some.inj h).symm, by simpa using h1⟩
section
variable {K : PySem.W.Frag} {Z : Zx} {E : XS}
theorem lsk_ok {P : Addr} {q : Str} {dn d : DE} {σ : L2.St} {H : Hp} {Q : VK} (hZ : (P, q) ∈ Z.tabs) (h : tL K Z E (lSortKR dn d) σ H Q) : tSKR K P q (tRgF (tE K Z E dn)) (tE K Z E0s d) σ H Q := by
  obtain ⟨H0, F, G, pv, st, k, kx, wd, ss, hd, hk, hx⟩ := h
  refine tE_seq wd ss hx hd fun H1 G1 H1' st1 v1 r1 e1 wd1 ss1 rr1 k1 => ?_
  cases r1 with
  | pk _ => exact k1.elim
  | w w =>
    cases w with
    | int m =>
      obtain ⟨n, kf, kd, rfl, hn, hd2, hk2, al, sb, dp, kk⟩ := k1
      cases rr1 with
      | w rv =>
        cases rv
        have hF := hx.tabs _ hZ
        obtain ⟨ps, hP, ht, ha⟩ := wd1.tb P _ q hF rfl
        refine ⟨_, rfl, n, rfl, hn, ps, fun c => H1 c = some (CodeO c q), hP, ⟨ht, fun pos cv hc => ?_⟩, fun c' H2 hm hco => ?_⟩
        · obtain ⟨c, z1, z2⟩ := ha pos cv hc
          exact ⟨c, z1, wd1.ex _ _ z2, z2⟩
        · obtain ⟨H0', e0, wd2, hc0⟩ := made_ok wd1 hF hm
          refine ⟨kd, fun _ Hi => ∃ H0i Gi, Ex H0' H0i ∧ Wd H0i F Gi Hi ∧ Sts K Z H0i pv σ st1 Gi, al, sb, dp, fun i Hi hj => ?_, ⟨H0', G1, Ex.refl _, wd2, ss1.mono e0⟩, fun i b Hi hb hj => ?_, fun Hi p hj hp => ?_⟩
          · obtain ⟨H0i, Gi, e2, w2, _⟩ := hj
            exact w2.ex _ _ (e2 _ _ hc0)
          · obtain ⟨H0i, Gi, e2, w2, s2⟩ := hj
            obtain ⟨rfl, hi⟩ := nats_get hb
            refine ⟨H0i, F, Gi, pv, _, _, _, w2, sts_snoc .int s2, hd2 i hi, fun H3 G3 H3' st3 v3 r3 e3 w3 s3 rr3 kk3 => ?_, ⟨hx.tabs, fun _ _ _ _ _ _ _ _ _ _ _ z => z.elim⟩⟩
            obtain ⟨rfl, rfl⟩ := kk3
            cases rr3 with
            | w rv3 =>
              have s4 := sts_unsnoc s3
              refine ⟨key_of w3.ex rv3 (hk2 i hi), H3, _, e2.trans e3, w3, s4⟩
          · obtain ⟨H0i, Gi, e2, w2, s2⟩ := hj
            exact hk _ _ _ _ _ _ _ (e1.trans (e0.trans e2)) (w2.hand hp) (w2.free hp).2.1 s2 (Reps.map V.int W.int (fun _ => .int) _) kk
    | _ => exact k1.elim
end
section
variable {X : Cx} {Z : Zx} {E : XS}
theorem pl_sortKR {e body : Expr} {c P : Addr} {k : Nat} {params : Arguments} {scope : Scope} {dn d : DE} {y q : Str} {p p2 lpos kpos pos pos2 : Pos} (hg : Gl X "sorted") (hm : X.mg "sorted" = none) (hg2 : Gl X "range") (hm2 : X.mg "range" = none) (hq : X.env.qual ++ "<lambda>" = q)
    (he : PD X Z E e dn) (TB : TabB X.base X.mg c P) (hcode : X.env.code = .ref c) (hr : Room (k + 3) X.A) (L : LamP X.env.scope scope y) (hdef : defaultsOf params X.env = ([], []))
    (hbind : ∀ (q : Str) (cl : List (Str × Addr)) (pm cv ctv u : Value), bindArgs (PySem.W.kla_fn "<lambda>" q params body scope cl pm cv ctv) ⟨[u], []⟩ = pure [(y, u)])
    (hZ : (P, q) ∈ Z.tabs)
    (hbody : ∀ (A : Around) (outer : List Env) (s : Shared) (H : Hp) (f c' : Addr), Room k (A.deeper (lamEnv X scope s.heap.objs.size f c')) → PD (lamCxP X A outer s H C8.E0 scope f c' y) Z E0s body d)
    (na : starEach [e] X.env = (false, eval e X.env) :: starEach [] X.env := by rfl) (na2 : starEach [.Call (.Name "range" p2) [e] [] pos2] X.env = (false, eval (.Call (.Name "range" p2) [e] [] pos2) X.env) :: starEach [] X.env := by rfl) (hv : bootBuiltins "sorted" = some (.builtin "sorted") := by rfl) :
    PLD X Z E (.Call (.Name "sorted" p) [.Call (.Name "range" p2) [e] [] pos2] [⟨some "key", .Lambda params body scope lpos, kpos⟩] pos) (lSortKR dn d) := by
  subst hq
  exact pe_weak (pe_sortKR (tb := tE X.K Z E0s d) hg hm hv (prgf hg2 hm2 he na) TB hcode hr L hdef hbind (fun A outer s H f c' h => hbody A outer s H f c' h) na2) fun σ H Q z => lsk_ok hZ z
end
end Y
namespace Y
open PySem L2
open PySem.Spec PyProof.Rows
open Evl (Ex)
theorem lt65 {k : Nat} {A : Around} (r : Room k A) : A.units + 65 < cLine := by have := r.un; omega
/-! ### a name's own thing handed over; a if c else b of such -/
def wMv (d : DE) : DW := fun st k x => d st (fun r st1 => match r with
  | .w w => k (.fz w) st1
  | .pk i => match at' st1 i with
    | .lo t => k t (put st1 i .un)
    | _ => False) x
def wIf (c : DT) (a b : DW) : DW := fun st k x => c st (fun t st1 => (t = true → a st1 k x) ∧ (t = false → b st1 k x)) x
/-- a list times a number, as an own list -/
def lRep (a b : DE) : DL := fun st k x => a st (fun r1 st1 => b st1 (fun r2 st2 => match r1.val st2, r2.val st2 with
  | some (.lst i), some (.int j) => (-(2 ^ 63) ≤ j ∧ j < 2 ^ 63 ∧ i.length * j.toNat ≤ sizeLine) ∧ k (List.replicate j.toNat i).flatten st2
  | _, _ => False) x) x
/-- xs[i] += e, xs a list of one's own, numbers -/
def dAugS (f : Int → Int → Int) (dd di dv : DE) : DS := fun D st => dd st (fun r st1 => di st1 (fun ri st2 => match r with
  | .pk j => (match getT st2 j, ri.val st2 with
    | some (.lst xs), some (.int i) => ∃ n a, 0 ≤ i ∧ ixN xs.length i = some n ∧ xs[n]? = some (.int a) ∧ dv st2 (fun rv st3 => match rv.val st3 with
        | some (.int b) => getT st3 j = some (.lst xs) ∧ D.nx (setT st3 j (.lst (xs.set n (.int (f a b)))))
        | _ => False) D.ex
    | _, _ => False)
  | _ => False) D.ex) D.ex
section
variable {X : Cx} {Z : Zx} {E : XS} {e a b o i : Expr} {da db dd di dv : DE} {d1 d2 : DW} {tc : DT} {pos tpos : Pos}
theorem pv_mv (he : PD X Z E e da) : PVD X Z E e (wMv da) := by
  refine pe_weak he fun σ H Q q => ?_
  obtain ⟨H0, F, G, pv, st, k, kx, wd, ss, hd, hk, hx⟩ := q
  refine tE_seq wd ss hx hd fun H1 G1 H1' st1 v r e1 wd1 ss1 rr k1 => ?_
  cases rr with
  | w rv => exact hk _ [] _ _ _ _ _ e1 wd1 (.fz rv) ss1 k1
  | pk h =>
    rename_i j
    replace k1 : (match at' st1 j with | .lo t => k t (put st1 j .un) | _ => False) := k1
    cases q : at' st1 j with
    | un => rw [q] at k1; exact k1.elim
    | mp k t => rw [q] at k1; exact k1.elim
    | fr _ _ _ _ _ _ => rw [q] at k1; exact k1.elim
    | lo t =>
      rw [q] at k1
      obtain ⟨v', Gx, Ga, Gb, h1, h2, h3, _, h5⟩ := ss1.lo_at q
      rw [h] at h1; cases h1
      subst h3
      refine hk _ Gx _ _ _ _ _ e1 (wd1.perm ?_) h2 h5 k1
      rw [← List.append_assoc]
      exact List.Perm.append_right _ List.perm_append_comm
theorem AccW.up {K : PySem.W.Frag} {F H0 H0' : Hp} {pv : List V} {σ : L2.St} {k : T → S → Prop} {Q : VK} (h : AccW K Z F pv σ H0 k Q) (e : Ex H0 H0') : AccW K Z F pv σ H0' k Q := fun _ _ _ _ _ _ _ e' => h _ _ _ _ _ _ _ (e.trans e')
theorem pv_if {c : Expr} (hc : PTD X Z E c tc) (ha : PVD X Z E a d1) (hb : PVD X Z E b d2) : PVD X Z E (.IfExp c a b pos) (wIf tc d1 d2) := by
  refine pe_weak (pe_ifExp hc ha hb) fun σ H Q q => ?_
  obtain ⟨H0, F, G, pv, st, k, kx, wd, ss, hd, hk, hx⟩ := q
  refine tT_seq wd ss hx hd fun H1 G1 H1' st1 c e1 wd1 ss1 k1 => ?_
  cases c with
  | true => exact iteT (tW_seq wd1 ss1 (hx.up e1) (k1.1 rfl) (AccW.up hk e1))
  | false => exact iteF (tW_seq wd1 ss1 (hx.up e1) (k1.2 rfl) (AccW.up hk e1))
theorem pl_rep (ha : PD X Z E a da) (hb : PD X Z E b db) : PLD X Z E (.BinOp a .Mult b pos) (lRep da db) := by
  refine pe_weak (pe_op op_rep ha hb) fun σ H Q q => ?_
  obtain ⟨H0, F, G, pv, st, k, kx, wd, ss, hd, hk, hx⟩ := q
  refine tE_seq wd ss hx hd fun H1 G1 H1' st1 v1 r1 e1 wd1 ss1 rr1 k1 => ?_
  refine tE_seq wd1 ss1 (hx.up e1) k1 fun H2 G2 H2' st2 v2 r2 e2 wd2 ss2 rr2 k2 => ?_
  have k2 : (match r1.val st2, r2.val st2 with
    | some (.lst i), some (.int j) => (-(2 ^ 63) ≤ j ∧ j < 2 ^ 63 ∧ i.length * j.toNat ≤ sizeLine) ∧ k (List.replicate j.toNat i).flatten st2
    | _, _ => False) := k2
  split at k2
  · rename_i i j q1 q2
    obtain ⟨p, xs, rfl, h1, rs1⟩ := ((rr1.mono e2).peek ss2 wd2 q1).lst_of wd2.ex
    have hj := (rr2.peek ss2 wd2 q2).int_of
    refine ⟨p, j, xs, rfl, hj, h1, k2.1.1, k2.1.2.1, by rw [rs1.length]; exact k2.1.2.2, fun p2 hp => ?_⟩
    exact hk _ _ _ _ _ _ _ (e1.trans e2) (wd2.hand hp) (wd2.free hp).2.1 ss2 (rs1.rep _) k2.2
  · exact k2.elim
def rGetL (K : PySem.W.Frag) : V → V → Hp → VK → Prop := fun x y H Q => ∃ p xs i v, x = .ref p ∧ y = .int i ∧ SqL K H p xs ∧ atI xs i = some v ∧ 0 ≤ i ∧ Q v H
theorem get_ix : PGet X (rGetL X.K) := by
  intro pins s σ H x y v u Q I rx ry h
  obtain ⟨p, xs, i, z, rfl, rfl, hq, he, h0, q⟩ := h
  cases rx
  obtain ⟨t, rfl⟩ := ry
  obtain ⟨its, r, pl, hz⟩ := I.list hq
  obtain ⟨j, h1, h2, h3, h4, h5⟩ := atI_get he
  obtain ⟨w, ew, rw'⟩ := r.get h2
  have hn := line63
  have hj : i.toNat = j := by
    rw [seqIndex_of h0 h5] at h1
    exact Option.some.inj h1
  exact wpAny_getItem_list pl.isList h0 (by omega) (by rw [hj]; simpa using ew) ⟨z, H, I, rw', q⟩
theorem z_augS {op : Operator} {f : Int → Int → Int} (hu : X.A.units + 1 < cLine) (hop : PIp X op (ipI f)) (ho : PD X Z E o dd) (hi : PD X Z E i di) (hv : PD X Z E e dv)
    (ha : ∀ ov iv new, augStore i ov iv new = (do holding [new, ov, iv] (setItem ov iv new); release [new, ov, iv] []; pure .next) := by intros; rfl) :
    PZ X Z E (.AugAssign (.Subscript o i tpos) op e pos) (dAugS f dd di dv) := by
  refine ps_weak (ps_augS ho hi get_ix hv hop set_list ha) fun D σ H q => ?_
  obtain ⟨H0, F, G, pv, st, DD, wd, ss, hd, hA⟩ := q
  refine tE_seq wd ss hA.ex.at hd fun H1 G1 H1' st1 v1 r1 e1 wd1 ss1 rr1 k1 => ?_
  refine tE_seq wd1 ss1 (hA.ex.at.up e1) k1 fun H2 G2 H2' st2 v2 r2 e2 wd2 ss2 rr2 k2 => ?_
  cases rr1 with
  | w _ => exact k2.elim
  | pk hp =>
    rename_i j
    replace k2 : (match getT st2 j, r2.val st2 with
      | some (.lst xs), some (.int i) => ∃ n a, 0 ≤ i ∧ ixN xs.length i = some n ∧ xs[n]? = some (.int a) ∧ dv st2 (fun rv st3 => match rv.val st3 with
          | some (.int b) => getT st3 j = some (.lst xs) ∧ DD.nx (setT st3 j (.lst (xs.set n (.int (f a b)))))
          | _ => False) DD.ex
      | _, _ => False) := k2
    split at k2
    · rename_i xs i q1 q2
      obtain ⟨n, a, h0, hn, hx, k2⟩ := k2
      have ev : v2 = .int i := (rr2.peek ss2 wd2 q2).int_of
      subst ev
      obtain ⟨Gx, Ga, Gb, h1, h2, h3⟩ := ss2.own q1 hp
      cases h1 with
      | @lst p vs _ rs =>
        subst h2
        have hpH : H2' p = some (.lst vs) := wd2.ow (p, _) (by simp)
        obtain ⟨va, hva, ra⟩ := rs.get hx
        cases ra
        refine ⟨p, vs, i, .int a, rfl, rfl, .of hpH, by unfold atI; rw [rs.length, hn]; exact hva, h0, ?_⟩
        refine tE_seq wd2 ss2 (hA.ex.at.up (e1.trans e2)) k2 fun H3 G3 H3' st3 v3 r3 e3 wd3 ss3 rr3 k3 => ?_
        split at k3
        · rename_i b q3
          have ev3 : v3 = .int b := (rr3.peek ss3 wd3 q3).int_of
          subst ev3
          obtain ⟨Gx', Ga', Gb', h1', h2', h3'⟩ := ss3.own k3.1 hp
          cases h1' with
          | @lst _ vs' _ rs' =>
            subst h2'
            have hpH3 : H3' p = some (.lst vs') := wd3.ow (p, _) (by simp)
            refine ⟨a, b, rfl, rfl, p, vs', i, n, rfl, rfl, hpH3, by rw [rs'.length]; exact hn, ?_⟩
            exact hA.nx _ _ _ _ _ (e1.trans (e2.trans e3)) wd3.write (h3' H3 _ _ (Ex.refl _) (.lst (rs'.set .int n))) k3.2
        · exact k3.elim
    · exact k2.elim
end
/-! ### sum(xs), xs a list or a tuple of numbers -/
def rSumT (K : PySem.W.Frag) : List V → Hp → VK → Prop := fun vs H Q => rSum K vs H Q ∨ ∃ (a : Addr) (ns : List Int), vs = [V.ref a] ∧ SqT K H a (ns.map V.int) ∧ Q (.int ns.sum) H
theorem cr_sumT {X : Cx} (hc : X.calm = true) : CallR X (.builtin "sum") (rSumT X.K) := by
  intro pins s σ H vs us Q I r h
  rcases h with h | ⟨a, ns, rfl, hs, q⟩
  · exact cr_sum hc pins s σ H vs us Q I r h
  · obtain ⟨its, rv, ht, _⟩ := I.tuple hs
    rw [Vals.ref1 r]
    obtain ⟨xs, e⟩ := rv.ints.allInts.items
    have hn : numsOf (intItems xs).toList = ns := by rw [← e]; exact rv.ints.numsOf
    rw [nums_intItems] at hn
    rw [e] at ht
    refine PySem.W.ktm_sumG (I.ok.hd hc) ht fun h' tk t' hk => ?_
    rw [preSum_eq, List.take_of_length_le (by simp), hn]
    exact ⟨.int _, H, I.kept hk, ⟨_, rfl⟩, q⟩
def cSumT : OC := fun ws k => ∃ ns : List Int, (ws = [.lst (ns.map .int)] ∨ ws = [.tup (ns.map .int)]) ∧ k (.int ns.sum)
theorem cd_sumT {K : PySem.W.Frag} {Z : Zx} : CallD K Z (rSumT K) cSumT := by
  intro H0 H vs ws k Q e r c f
  obtain ⟨ns, h, c⟩ := c
  rcases h with rfl | rfl
  · exact .inl (cd_sum H0 H vs _ k Q e r ⟨ns, rfl, c⟩ f)
  · obtain ⟨v, rfl, rv⟩ := r.one
    obtain ⟨p, xs, rfl, h, rs⟩ := rv.tup_of e
    exact .inr ⟨p, ns, rfl, by rw [← rs.ints_of]; exact h, f.same e .int c⟩
end Y
namespace Y
open PySem L2
open PySem.Spec PyProof.Rows
open Evl (Ex)
/-! ### a comprehension over a name's own list, which stays -/
def compG (ok : S → Prop) (ct : CT) (cond : DT) (elt : DE) : List W → List W → S → (List W → S → Prop) → Prop
  | [], acc, st, k => ok st ∧ k acc st
  | w :: ws, acc, st, k => ok st ∧ ct.g w st fun st1 => cond st1 (fun b st2 =>
      (b = true → elt st2 (fun r st3 => match r with
        | .w v => acc.length < sizeLine ∧ compG ok ct cond elt ws (acc ++ [v]) (wipeS st3 ct.own) k
        | .pk _ => False) (fun _ _ => False)) ∧
      (b = false → compG ok ct cond elt ws acc (wipeS st2 ct.own) k)) (fun _ _ => False)
def lCompV (d : DE) (ct : CT) (cond : DT) (elt : DE) : DL := fun st k x => d st (fun r st1 => match r with
  | .pk i => (match at' st1 i with
    | .lo (.lst ws) => compG (fun st => at' st i = .lo (.lst ws)) ct cond elt ws [] (wipeS st1 ct.own) k
    | _ => False)
  | _ => False) x
section
variable {X : Cx} {Z : Zx} {E : XS} {tg e elt : Expr} {ifs : List Expr} {da de : DE} {ta : DT} {pos : Pos}
theorem lcV_go {σ : L2.St} {Q : VK} {ct : CT} {ok : S → Prop} {F : Hp} {pv : List V} {H0 H1 H1' : Hp} {G1 : Fp} {st1 : S} {J : It} {ws : List W} {k : List W → S → Prop} {kx : KX} (hk : AccL X.K Z F pv σ H0 k Q) (hx : AccXe X.K Z E F pv σ H0 kx) (e1 : Ex H0 H1) (wd1 : Wd H1 F G1 H1') (ss1 : Sts X.K Z H1 pv σ st1 G1)
    (hJ : ∀ (i : Nat) (H Hc Fc : Hp) (G : Fp) (st2 : S), Ex H1 Hc → Wd Hc Fc G H → Sts X.K Z Hc pv σ st2 G → ok st2 → (ws.length ≤ i → J.stop i H) ∧ ∀ w, ws[i]? = some w → J.go i H ∧ ∀ x H', J.yld i H x H' → ∃ Hc', Gr Hc H Hc' H' ∧ Rep X.K Z Hc' x w)
    (k1 : compG ok ct ta de ws [] (wipeS st1 ct.own) k) : ∀ D, H1' D = none → ∃ W : Nat → Nat → Hp → Prop, (∃ m, W 0 m (upd H1' D (.lst []))) ∧ ∀ i m H, W i m H →
    (J.stop i H ∧ Q (.ref D) H) ∨ (J.go i H ∧ ∃ Nx : Hp → Prop, (∀ H', Nx H' → ∃ m', m' < m ∧ W (i + 1) m' H') ∧ ∀ x H', J.yld i H x H' → ct.tg X.K x (wipe σ ct.own) H' fun σ2 H2 => wipe σ2 ct.own = wipe σ ct.own ∧ tTs X.K Z E0s ta σ2 H2 fun b H3 =>
    if b = true then tE X.K Z E0s de σ2 H3 fun y H4 => ∃ acc, H4 D = some (.lst acc) ∧ acc.length < sizeLine ∧ Nx (upd H4 D (.lst (acc ++ [y]))) else Nx H3) := by
  intro D hD
  have hFD := (wd1.free hD).2.1
  obtain ⟨G1', wd1', ss1'⟩ := ss1.dropAll (wd1.hand (o := .lst []) hD) ct.own
  refine ⟨fun i m H => m = ws.length - i ∧ ∃ H2 G2 st2 aV aW, Ex H1 H2 ∧ Wd H2 (upd F D (.lst aV)) G2 H ∧ Sts X.K Z H2 pv σ st2 G2 ∧ (∀ v ∈ ct.own, at' st2 v = .un) ∧ Reps X.K Z H2 aV aW ∧ compG ok ct ta de (ws.drop i) aW st2 k,
    ⟨_, rfl, H1, G1', _, [], [], Ex.refl _, wd1', ss1', fun v hv => at_wipe hv, .nil, k1⟩, ?_⟩
  rintro i m H2' ⟨rfl, H2, G2, st2, aV, aW, e2, wd2, ss2, un2, ra, k2⟩
  have hok : ok st2 := by
    cases q : ws.drop i with
    | nil => rw [q] at k2; exact k2.1
    | cons w r => rw [q] at k2; exact k2.1
  obtain ⟨hstop, hgo⟩ := hJ i H2' H2 _ G2 st2 e2 wd2 ss2 hok
  by_cases hl : ws.length ≤ i
  · refine .inl ⟨hstop hl, ?_⟩
    rw [List.drop_eq_nil_of_le hl] at k2
    exact hk _ _ _ _ _ _ _ (e1.trans e2) wd2 hFD ss2 ra k2.2
  · have hlt : i < ws.length := Nat.lt_of_not_le hl
    obtain ⟨go, step⟩ := hgo ws[i] (List.getElem?_eq_getElem hlt)
    let Nx : Hp → Prop := fun H' => ∃ H3 G3 st3 bV bW, Ex H1 H3 ∧ Wd H3 (upd F D (.lst bV)) G3 H' ∧ Sts X.K Z H3 pv σ st3 G3 ∧ (∀ v ∈ ct.own, at' st3 v = .un) ∧ Reps X.K Z H3 bV bW ∧ compG ok ct ta de (ws.drop (i + 1)) bW st3 k
    refine .inr ⟨go, Nx, fun H' ⟨H3, G3, st3, bV, bW, e3, wd3, ss3, un3, rb, k3⟩ => ⟨ws.length - (i + 1), by omega, rfl, H3, G3, st3, bV, bW, e3, wd3, ss3, un3, rb, k3⟩, fun x H' y => ?_⟩
    obtain ⟨Hc, gr, rx⟩ := step x H' y
    rw [List.drop_eq_getElem_cons hlt] at k2
    have ssw : Sts X.K Z H2 pv (wipe σ ct.own) st2 G2 := ss2.alike (wipe_length _ _) fun j => by
      by_cases hj : j ∈ ct.own
      · exact .inl (un2 j hj)
      · exact .inr (by rw [wipe_get, if_neg hj])
    refine ct_ok ct (wd2.grow gr) (ssw.mono gr.e0) rx k2.2 fun σ3 st3 G3 wd3 ss3 hw hl3 k3 => ?_
    have hw' : wipe σ3 ct.own = wipe σ ct.own := by
      rw [hw]
      refine List.ext_getElem? fun j => ?_
      rw [wipe_get, wipe_get]
      by_cases hj : j ∈ ct.own
      · rw [if_pos hj, if_pos hj]; cases σ[j]? <;> rfl
      · rw [if_neg hj, if_neg hj]
        all_goals rfl
    have hl3' : σ3.length = σ.length := by rw [hl3, wipe_length]
    refine ⟨hw', ?_⟩
    have e1c : Ex H1 Hc := e2.trans gr.e0
    -- the turn's end
    have back : ∀ {H5 H5' : Hp} {G5 : Fp} {st5 : S} {o : HO}, Wd H5 (upd F D o) G5 H5' → Sts X.K Z H5 pv σ3 st5 G5 → ∃ G6, Wd H5 (upd F D o) G6 H5' ∧ Sts X.K Z H5 pv σ (wipeS st5 ct.own) G6 := fun {H5 H5' G5 st5 o} wd5 ss5 => by
      obtain ⟨G6, wd6, ss6⟩ := ss5.dropAll wd5 ct.own
      refine ⟨G6, wd6, ss6.alike hl3'.symm fun j => ?_⟩
      by_cases hj : j ∈ ct.own
      · exact .inl (at_wipe hj)
      · have := congrArg (fun l => l[j]?) hw'
        simp only [wipe_get, if_neg hj] at this
        exact .inr this.symm
    refine tT_seq wd3 ss3 (hx.noxU hFD) k3 fun H4 G4 H4' st4 b e4 wd4 ss4 k4 => ?_
    cases b with
    | false =>
      refine iteF ?_
      obtain ⟨G6, wd6, ss6⟩ := back wd4 ss4
      exact ⟨H4, G6, _, aV, aW, e1c.trans e4, wd6, ss6, fun v hv => at_wipe hv, ra.mono (gr.e0.trans e4), k4.2 rfl⟩
    | true =>
      refine iteT ?_
      refine tE_seq wd4 ss4 (hx.noxU hFD) (k4.1 rfl) fun H5 G5 H5' st5 v r e5 wd5 ss5 rr k5 => ?_
      cases rr with
      | pk _ => exact k5.elim
      | w rv =>
        have ra5 := ra.mono (gr.e0.trans (e4.trans e5))
        refine ⟨aV, wd5.hand_at, by rw [ra5.length]; exact k5.1, ?_⟩
        obtain ⟨G6, wd6, ss6⟩ := back (wd5.hand_write (o' := .lst (aV ++ [v])) hFD) ss5
        exact ⟨H5, G6, _, _, _, e1c.trans (e4.trans e5), wd6, ss6, fun v hv => at_wipe hv, ra5.append (.one rv), k5.2⟩
theorem pl_compV {ct : CT} {scope : Scope} {own : List (Str × Nat)} (hc : X.calm = true) (hN : X.N.Nodup) (hi : PD X Z E e da) (ok : BlkOk X.N X.env.scope scope own) (how : own.map (·.2) = ct.own)
    (hg : ∀ (s : Shared) (H : Hp) (C : Addr) (cl : List (Str × Addr)) (fp : List Addr), PG (X.blk s H scope (compEnvC scope cl C X.env) fp) tg (ct.tg X.K))
    (ht : ∀ (s : Shared) (H : Hp) (C : Addr) (cl : List (Str × Addr)) (fp : List Addr), PTsD (X.blk s H scope (compEnvC scope cl C X.env) fp) Z E0s ifs ta)
    (he : ∀ (s : Shared) (H : Hp) (C : Addr) (cl : List (Str × Addr)) (fp : List Addr), PD (X.blk s H scope (compEnvC scope cl C X.env) fp) Z E0s elt de) (hs : ∀ x, foldedSetIterable e X.env x = pure x := by intro _; rfl) :
    PLD X Z E (.ListComp elt [⟨tg, e, ifs, 0⟩] scope pos) (lCompV da ct ta de) := by
  have ht' : ∀ (s : Shared) (H : Hp) (C : Addr) (cl : List (Str × Addr)) (fp : List Addr), PTs (X.blk s H scope (compEnvC scope cl C X.env) fp) ifs (tTs X.K Z E0s ta) := ht
  have he' : ∀ (s : Shared) (H : Hp) (C : Addr) (cl : List (Str × Addr)) (fp : List Addr), PE (X.blk s H scope (compEnvC scope cl C X.env) fp) elt (tE X.K Z E0s de) := he
  have := pe_lc (pos := pos) hc hN (pi_sq hi) ok hg ht' he' hs
  rw [how] at this
  refine pe_weak this fun σ H Q q => ?_
  obtain ⟨H0, F, G, pv, st, k, kx, wd, ss, hd, hk, hx⟩ := q
  refine tE_seq wd ss hx hd fun H1 G1 H1' st1 v r e1 wd1 ss1 rr k1 => ?_
  cases rr with
  | w rv => exact k1.elim
  | @pk i hv =>
    replace k1 : (match at' st1 i with | .lo (.lst ws) => compG (fun st => at' st i = .lo (.lst ws)) ct ta de ws [] (wipeS st1 ct.own) k | _ => False) := k1
    cases q : at' st1 i with
    | un => rw [q] at k1; exact k1.elim
    | mp _ t => rw [q] at k1; exact k1.elim
    | fr _ _ _ _ _ _ => rw [q] at k1; exact k1.elim
    | lo t =>
      rw [q] at k1
      cases t with
      | lst ws =>
        obtain ⟨v', Gx, Ga, Gb, h1, h3, h4, _, _⟩ := ss1.lo_at q
        rw [hv] at h1
        cases h1
        cases h3 with
        | @lst p xs _ rs =>
          have hp0 : H1' p = some (.lst xs) := wd1.ow (p, _) (by rw [h4]; simp)
          refine .inl ⟨p, rfl, ⟨xs, .of hp0⟩, lcV_go (F := F) (pv := pv) (ok := fun st => at' st i = .lo (.lst ws)) hk hx e1 wd1 ss1 (fun j H Hc Fc G st2 ex wd ss ok => ?_) k1⟩
          obtain ⟨v2, Gx2, Ga2, Gb2, g1, g3, g4, _, _⟩ := ss.lo_at ok
          rw [hv] at g1
          cases g1
          cases g3 with
          | @lst _ ys _ rs2 =>
            have hp1 : H p = some (.lst ys) := wd.ow (p, _) (by rw [g4]; simp)
            refine ⟨fun hl => ⟨ys, .of hp1, by rw [rs2.length]; exact hl⟩, fun w hw => ?_⟩
            obtain ⟨u, u1, u2⟩ := rs2.get hw
            refine ⟨⟨ys, u, .of hp1, u1⟩, fun x H' y => ?_⟩
            obtain ⟨rfl, y⟩ := y
            have z := y ys (.of hp1)
            rw [u1] at z
            cases z
            exact ⟨Hc, Gr.refl wd.ex, u2⟩
      | _ => exact k1.elim
end
end Y
namespace Y
open PySem L2 QL
open PySem.W (AllAlike Sortable dataLe)
/-! ### pence split by weights, in plain Lean -/
def quo (p t : Int) (ws : List Int) : List Int := ws.map fun w => p * w / t
def rst (p t : Int) (ws : List Int) : List Int := ws.map fun w => p * w % t
def at0 (rs : List Int) (i : Int) : Int := rs.getD i.toNat 0
def inc (fs : List Int) (i : Int) : List Int := fs.set i.toNat (at0 fs i + 1)
def mark (rs : List Int) (i : Int) : List Int := rs.set i.toNat (-1)
def incs (fs : List Int) (is : List Int) : List Int := is.foldl inc fs
def marks (rs : List Int) (is : List Int) : List Int := is.foldl mark rs
def keyP (rs : List Int) (i : Int) : PyData := .tuple [.int (0 - at0 rs i), .int i]
def ordP (rs : List Int) : List Int := (nats rs.length).mergeSort (dataLe false (keyP rs))
def leftP (p t : Int) (ws : List Int) : Int := p - (quo p t ws).sum
def splitO (p : Int) (ws : List Int) : Option (List Int) :=
  if ws.sum = 0 then (if 0 < p then none else some (List.replicate ws.length 0))
  else some (incs (quo p ws.sum ws) ((ordP (rst p ws.sum ws)).take (leftP p ws.sum ws).toNat))
/-- the greater rest ahead, of equal ones the first -/
def LeR (rs : List Int) (a b : Int) : Prop := at0 rs b < at0 rs a ∨ (at0 rs a = at0 rs b ∧ a ≤ b)
structure OrdOk (rs o : List Int) : Prop where
  perm : o.Perm (nats rs.length)
  pw : o.Pairwise (LeR rs)
theorem nats_len (n : Nat) : (nats n).length = n := by simp [nats]
theorem nats_nodup (n : Nat) : (nats n).Nodup := by
  unfold nats List.Nodup
  rw [List.pairwise_map]
  exact List.nodup_range.imp fun h e => h (by omega)
theorem mem_nats {n : Nat} {i : Int} : i ∈ nats n ↔ 0 ≤ i ∧ i < n := by
  unfold nats
  rw [List.mem_map]
  constructor
  · rintro ⟨j, hj, rfl⟩
    have := List.mem_range.mp hj
    omega
  · rintro ⟨h1, h2⟩
    exact ⟨i.toNat, List.mem_range.mpr (by omega), by omega⟩
theorem ordP_ok (rs : List Int) : OrdOk rs (ordP rs) := by
  refine ⟨List.mergeSort_perm _ _, ?_⟩
  have e : dataLe false (keyP rs) = fun p q => decide (0 - at0 rs p < 0 - at0 rs q ∨ (0 - at0 rs p = 0 - at0 rs q ∧ p ≤ q)) := PySem.W.dataLe_ii (β := Int) (fun i => 0 - at0 rs i) (fun i => i)
  have h := List.pairwise_mergeSort (le := dataLe false (keyP rs)) (fun a b c h1 h2 => ?_) (fun a b => ?_) (nats rs.length)
  · refine List.Pairwise.imp (fun {a b} hab => ?_) h
    rw [e] at hab
    have := of_decide_eq_true hab
    unfold LeR
    omega
  · rw [e] at h1 h2 ⊢
    have := of_decide_eq_true h1
    have := of_decide_eq_true h2
    exact decide_eq_true (by omega)
  · rw [e]
    simp only [Bool.or_eq_true, decide_eq_true_eq]
    omega
theorem marks_len : ∀ (is rs : List Int), (marks rs is).length = rs.length
  | [], _ => rfl
  | i :: is, rs => by
    show (marks (mark rs i) is).length = _
    rw [marks_len is]
    exact List.length_set
theorem incs_len : ∀ (is fs : List Int), (incs fs is).length = fs.length
  | [], _ => rfl
  | i :: is, fs => by
    show (incs (inc fs i) is).length = _
    rw [incs_len is]
    exact List.length_set
theorem marks_get : ∀ (is rs : List Int) (i : Nat), (∀ j ∈ is, 0 ≤ j) → i < rs.length → (marks rs is)[i]? = if (i : Int) ∈ is then some (-1) else rs[i]?
  | [], rs, i, _, _ => by simp [marks]
  | j :: is, rs, i, h, hi => by
    show (marks (mark rs j) is)[i]? = _
    rw [marks_get is (mark rs j) i (fun x hx => h x (List.mem_cons_of_mem _ hx)) (by unfold mark; rw [List.length_set]; exact hi)]
    by_cases h1 : (i : Int) ∈ is
    · rw [if_pos h1, if_pos (List.mem_cons_of_mem _ h1)]
    · rw [if_neg h1]
      have hj := h j List.mem_cons_self
      unfold mark
      by_cases h2 : j.toNat = i
      · have e : (i : Int) = j := by omega
        rw [if_pos (by rw [e]; exact List.mem_cons_self), h2, List.getElem?_set_self hi]
      · rw [if_neg (fun z => by rcases List.mem_cons.mp z with z | z; · omega
                                · exact h1 z), List.getElem?_set_ne h2]
theorem get_at0 {rs : List Int} {i : Nat} (h : i < rs.length) : rs[i]? = some (at0 rs (i : Int)) := by
  unfold at0
  rw [List.getElem?_eq_getElem h]
  simp [List.getD, h]
/-- the law's next pick is the order's next -/
theorem pickP {rs o : List Int} {k : Nat} {a m : Int} (h : OrdOk rs o) (pos : ∀ x ∈ rs, 0 ≤ x) (hk : o[k]? = some a) (hm : m ∈ marks rs (o.take k)) (mx : ∀ y ∈ marks rs (o.take k), y ≤ m) :
    0 ≤ a ∧ a < rs.length ∧ (marks rs (o.take k))[a.toNat]? = some m ∧ ∀ (i : Nat), i < a.toNat → (marks rs (o.take k))[i]? ≠ some m := by
  have nd : o.Nodup := h.perm.nodup_iff.mpr (nats_nodup _)
  have rng : ∀ x ∈ o, 0 ≤ x ∧ x < rs.length := fun x hx => mem_nats.mp (h.perm.mem_iff.mp hx)
  obtain ⟨hkl, hka⟩ := List.getElem?_eq_some_iff.mp hk
  have ha := rng a (List.mem_of_getElem? hk)
  have h0 : ∀ j ∈ o.take k, 0 ≤ j := fun j hj => (rng j (List.mem_of_mem_take hj)).1
  have ml := marks_len (o.take k) rs
  have nota : a ∉ o.take k := fun z => by
    obtain ⟨j, hj⟩ := List.mem_iff_getElem?.mp z
    rw [List.getElem?_take] at hj
    split at hj
    · rename_i hjk
      obtain ⟨h1, h2⟩ := List.getElem?_eq_some_iff.mp hj
      have := (List.getElem_inj (h₀ := h1) (h₁ := hkl) nd).mp (h2.trans hka.symm)
      omega
    · cases hj
  -- an index that isn't picked yet stands behind a in the order, or is a
  have beh : ∀ i : Nat, i < rs.length → (i : Int) ∉ o.take k → (i : Int) = a ∨ LeR rs a i := fun i hi hn => by
    have hio : (i : Int) ∈ o := h.perm.mem_iff.mpr (mem_nats.mpr ⟨by omega, by omega⟩)
    obtain ⟨q, hq⟩ := List.mem_iff_getElem?.mp hio
    obtain ⟨hql, hqa⟩ := List.getElem?_eq_some_iff.mp hq
    have hkq : k ≤ q := by
      rcases Nat.lt_or_ge q k with z | z
      · exact absurd (List.mem_iff_getElem?.mpr ⟨q, by rw [List.getElem?_take, if_pos z]; exact hq⟩) hn
      · exact z
    rcases Nat.eq_or_lt_of_le hkq with e | e
    · subst e; left; rw [← hqa, ← hka]
    · right
      have := (List.pairwise_iff_getElem.mp h.pw) k q hkl hql e
      rw [hka, hqa] at this
      exact this
  have hal : a.toNat < rs.length := by omega
  have ea : ((a.toNat : Nat) : Int) = a := by omega
  have va : (marks rs (o.take k))[a.toNat]? = some (at0 rs a) := by
    rw [marks_get _ _ _ h0 hal, ea, if_neg nota, get_at0 hal, ea]
  have p0 : 0 ≤ at0 rs a := pos _ (by
    have := get_at0 hal
    rw [ea] at this
    exact List.mem_of_getElem? this)
  have vm : at0 rs a ≤ m := mx _ (List.mem_of_getElem? va)
  have all : ∀ i : Nat, i < rs.length → (marks rs (o.take k))[i]? = some m → (i : Int) = a ∨ (LeR rs a i ∧ m = at0 rs i) := fun i hi e => by
    rw [marks_get _ _ _ h0 hi] at e
    by_cases z : (i : Int) ∈ o.take k
    · rw [if_pos z] at e
      have := Option.some.inj e
      omega
    · rw [if_neg z, get_at0 hi] at e
      rcases beh i hi z with q | q
      · exact .inl q
      · exact .inr ⟨q, (Option.some.inj e).symm⟩
  have em : m = at0 rs a := by
    obtain ⟨i, hi⟩ := List.mem_iff_getElem?.mp hm
    have hil : i < rs.length := by rw [← ml]; exact (List.getElem?_eq_some_iff.mp hi).1
    rcases all i hil hi with q | ⟨q, e⟩
    · rw [← ea] at q
      have q : i = a.toNat := by omega
      subst q
      rw [va] at hi
      exact (Option.some.inj hi).symm
    · unfold LeR at q
      omega
  refine ⟨ha.1, ha.2, by rw [em]; exact va, fun i hi e => ?_⟩
  rcases all i (by omega) e with q | ⟨q, e2⟩
  · omega
  · unfold LeR at q
    omega
/-! ### how many are left -/
theorem sum_nonneg : ∀ (l : List Int), (∀ x ∈ l, 0 ≤ x) → 0 ≤ l.sum
  | [], _ => by simp
  | x :: l, h => by
    rw [List.sum_cons]
    have := sum_nonneg l fun y hy => h y (List.mem_cons_of_mem _ hy)
    have := h x List.mem_cons_self
    omega
theorem quo_rst (p t : Int) : ∀ ws : List Int, (quo p t ws).sum * t + (rst p t ws).sum = p * ws.sum
  | [] => by simp [quo, rst]
  | w :: ws => by
    have ih := quo_rst p t ws
    have h := Int.mul_ediv_add_emod (p * w) t
    show (p * w / t + (quo p t ws).sum) * t + (p * w % t + (rst p t ws).sum) = p * (w + ws.sum)
    rw [Int.add_mul, Int.mul_add, ← ih, Int.mul_comm (p * w / t) t]
    omega
theorem rst_lt (p t : Int) (ht : 0 < t) : ∀ ws : List Int, 0 ≤ (rst p t ws).sum ∧ (rst p t ws).sum ≤ ws.length * (t - 1)
  | [] => by simp [rst]
  | w :: ws => by
    have ih := rst_lt p t ht ws
    have h1 := Int.emod_nonneg (p * w) (show t ≠ 0 by omega)
    have h2 := Int.emod_lt_of_pos (p * w) ht
    show 0 ≤ p * w % t + (rst p t ws).sum ∧ p * w % t + (rst p t ws).sum ≤ ((ws.length + 1 : Nat) : Int) * (t - 1)
    have e : ((ws.length + 1 : Nat) : Int) * (t - 1) = ws.length * (t - 1) + (t - 1) := by
      rw [Int.natCast_add, Int.add_mul]
      omega
    rw [e]
    omega
theorem left_rng {p : Int} {ws : List Int} (h : ∀ w ∈ ws, 0 ≤ w) (ht : ws.sum ≠ 0) : 0 ≤ leftP p ws.sum ws ∧ leftP p ws.sum ws ≤ ws.length := by
  have h0 := sum_nonneg ws h
  have t0 : 0 < ws.sum := by omega
  have e := quo_rst p ws.sum ws
  have r := rst_lt p ws.sum t0 ws
  have e2 : leftP p ws.sum ws * ws.sum = (rst p ws.sum ws).sum := by
    unfold leftP
    rw [Int.sub_mul]
    omega
  constructor
  · rcases Int.lt_or_le (leftP p ws.sum ws) 0 with z | z
    · have := Int.mul_neg_of_neg_of_pos z t0
      omega
    · exact z
  · rcases Int.lt_or_le (ws.length : Int) (leftP p ws.sum ws) with z | z
    · have h1 : (ws.length : Int) * ws.sum < leftP p ws.sum ws * ws.sum := Int.mul_lt_mul_of_pos_right z t0
      have h2 : (ws.length : Int) * (ws.sum - 1) ≤ ws.length * ws.sum := Int.mul_le_mul_of_nonneg_left (by omega) (by omega)
      omega
    · exact z
end Y
namespace Y
open PySem L2 QL
open PySem.W (AllAlike Sortable dataLe)
theorem cut_takeI (ws : List W) (i : Nat) : cutW ws none (some (i : Int)) = ws.take i := by
  unfold cutW
  rw [HT.sIx_none, HT.sIx_nat, List.drop_zero, Nat.sub_zero]
  by_cases h : i ≤ ws.length
  · rw [Nat.min_eq_left h]
  · rw [Nat.min_eq_right (by omega), List.take_of_length_le (Nat.le_refl _), List.take_of_length_le (by omega)]
abbrev lstI (l : List Int) : W := .lst (l.map .int)
abbrev tupI (l : List Int) : W := .tup (l.map .int)
/-- what a weight may be -/
def Wt (B : Int) (ws : List Int) : Prop := (∀ x ∈ ws, 0 ≤ x ∧ x ≤ B) ∧ ws.length < 60
theorem mulB {i j : Int} (h0 : 0 ≤ i) (h1 : i ≤ 1000000000000000) (h2 : 0 ≤ j) (h3 : j ≤ 1000000000000000) : CMulW i j := mul_small (by omega) (by omega) (by omega) (by omega)
theorem sum_le (B : Int) : ∀ (l : List Int), (∀ x ∈ l, x ≤ B) → l.sum ≤ l.length * B
  | [], _ => by simp
  | x :: l, h => by
    have ih := sum_le B l fun y hy => h y (List.mem_cons_of_mem _ hy)
    have := h x List.mem_cons_self
    rw [List.sum_cons, List.length_cons, Int.natCast_add, Int.add_mul]
    omega
theorem divB {i m : Int} (h1 : 0 < m) (h2 : m ≤ 60000000000000000) : CDivW i m := wide_div (b := 90) h1 (by omega) (by decide) (by decide)
theorem set_ints (l : List Int) (n : Nat) (a : Int) : (l.map W.int).set n (.int a) = (l.set n a).map W.int := (List.map_set ..).symm
theorem ixN_nat {n i : Nat} (h : i < n) : ixN n (i : Int) = some i := by
  unfold ixN
  rw [if_pos (by omega), if_pos (by omega)]
  simp
theorem incs_snoc (fs l : List Int) (a : Int) : incs fs (l ++ [a]) = inc (incs fs l) a := by simp [incs]
theorem marks_snoc (fs l : List Int) (a : Int) : marks fs (l ++ [a]) = mark (marks fs l) a := by simp [marks]
theorem take_snoc {o : List Int} {k : Nat} {a : Int} (h : o[k]? = some a) : o.take (k + 1) = o.take k ++ [a] := by rw [List.take_add_one, h]; rfl
theorem quo_map (p t : Int) (ws : List Int) : (ws.map fun w => W.int (p * w / t)) = (quo p t ws).map W.int := by rw [quo, List.map_map]; rfl
theorem rst_map (p t : Int) (ws : List Int) : (ws.map fun w => W.int (p * w % t)) = (rst p t ws).map W.int := by rw [rst, List.map_map]; rfl
theorem quo_len (p t : Int) (ws : List Int) : (quo p t ws).length = ws.length := List.length_map ..
theorem rst_len (p t : Int) (ws : List Int) : (rst p t ws).length = ws.length := List.length_map ..
theorem rst_at {p t : Int} {ws : List Int} {i : Nat} (h : i < ws.length) : at0 (rst p t ws) (i : Int) = p * at0 ws (i : Int) % t := by
  have h1 := get_at0 (rs := rst p t ws) (i := i) (by rw [rst_len]; exact h)
  have h2 := get_at0 h
  unfold rst at h1
  rw [List.getElem?_map, h2] at h1
  exact (Option.some.inj h1).symm
theorem al_keys (rs : List Int) (n : Nat) : AllAlike ((nats n).map (keyP rs)) := PySem.W.AllAlike.of (enc := keyP rs) fun _ _ => by simp [PySem.W.alike, PySem.W.alikeAll, keyP]
theorem sb_keys (rs : List Int) (n : Nat) : Sortable ((nats n).map (keyP rs)) := PySem.W.Sortable.tuples (enc := keyP rs) fun _ => ⟨_, _, rfl⟩
theorem dp_keys (rs : List Int) (b : Int) : (keyP rs b).depth ≤ 100 := by simp [keyP, PyData.depth, PyData.depthAll]
def c_split : Ct := fun ts k kx => ∃ (p : Int) (ws : List Int) (w : W), ts = [.fz (.int p), .fz w] ∧ (w = lstI ws ∨ w = tupI ws) ∧ 0 ≤ p ∧ p ≤ 1000000000000000 ∧ Wt 1000000000000000 ws ∧
  (∀ fs, splitO p ws = some fs → k (.lst (fs.map .int)) ts) ∧ (splitO p ws = none → kx ⟨27, []⟩ ts)
/-- split -/
def d_split : DS := (dSeq (dAsg 6 (dCB cSumT (aCons (dVar 1) aNil)))
  (dSeq (dIf (dTest (dOp (oEqX false) (dVar 6) (dC (.int 0))))
  (dSeq (dIf (dTest (dOp oGt (dVar 0) (dC (.int 0))))
  (dRaise0 27)
  dNext)
  (dRetO (lRep (dFz (lDisp (aCons (dC (.int 0)) aNil))) (dCB cLen (aCons (dVar 1) aNil)))))
  dNext)
  (dSeq (dAsgO 2 (lComp (iSq (dVar 1)) (.one 7) tYes' (dOp oDiv (dOp oTimes (dVar 0) (dVar 7)) (dVar 6))))
  (dSeq (dAsg 3 (dOp oSub (dVar 0) (dCB cSum (aCons (dVar 2) aNil))))
  (dSeq (dAsg 4 (dFz (lSortKR (dCB cLen (aCons (dVar 1) aNil)) (dTup (aCons (dOp oSub (dC (.int 0)) (dOp oMod (dOp oTimes (dVar 0) (dOp oSub' (dVar 1) (dVar 8))) (dVar 6))) (aCons (dVar 8) aNil))))))
  (dSeq (dFor [5] (iSq (dFz (lCut (dVar 4) oNone (oPart (dVar 3))))) (gN 5)
  (dAugS (fun i j => i + j) (dVar 2) (dVar 5) (dC (.int 1))))
  (dRet (dVar 2))))))))
/-- behind the rests -/
theorem split_tail {p : Int} {ws : List Int} {w : W} {k : T → List T → Prop} {kx : XW → List T → Prop} (hw : w = lstI ws ∨ w = tupI ws) (p0 : 0 ≤ p) (p1 : p ≤ 1000000000000000) (wt : Wt 1000000000000000 ws) (t0 : ws.sum ≠ 0)
    (hk : k (.lst ((incs (quo p ws.sum ws) ((ordP (rst p ws.sum ws)).take (leftP p ws.sum ws).toNat)).map .int)) [.fz (.int p), .fz w]) :
    (dSeq (dAsg 4 (dFz (lSortKR (dCB cLen (aCons (dVar 1) aNil)) (dTup (aCons (dOp oSub (dC (.int 0)) (dOp oMod (dOp oTimes (dVar 0) (dOp oSub' (dVar 1) (dVar 8))) (dVar 6))) (aCons (dVar 8) aNil))))))
  (dSeq (dFor [5] (iSq (dFz (lCut (dVar 4) oNone (oPart (dVar 3))))) (gN 5)
  (dAugS (fun i j => i + j) (dVar 2) (dVar 5) (dC (.int 1))))
  (dRet (dVar 2)))) (endsOf [.fz (.int p), .fz w] k kx) [.lo (.fz (.int p)), .lo (.fz w), .lo (.lst ((quo p ws.sum ws).map .int)), .lo (.fz (.int (leftP p ws.sum ws))), .un, .un, .lo (.fz (.int ws.sum)), .un] := by
  have s0 : 0 ≤ ws.sum := sum_nonneg ws fun x hx => (wt.1 x hx).1
  have s1 : ws.sum ≤ 60000000000000000 := by
    have := sum_le 1000000000000000 ws fun x hx => (wt.1 x hx).2
    have := wt.2
    omega
  have lr := left_rng (p := p) (fun x hx => (wt.1 x hx).1) t0
  have turn : ∀ i : Nat, i < ws.length → 0 ≤ at0 ws (i : Int) ∧ at0 ws (i : Int) ≤ 1000000000000000 := fun i hi => wt.1 _ (List.mem_of_getElem? (get_at0 hi))
  have hlen : nats ws.length = nats (rst p ws.sum ws).length := by rw [rst_len]
  have after : (dSeq (dFor [5] (iSq (dFz (lCut (dVar 4) oNone (oPart (dVar 3))))) (gN 5)
      (dAugS (fun i j => i + j) (dVar 2) (dVar 5) (dC (.int 1)))) (dRet (dVar 2))) (endsOf [.fz (.int p), .fz w] k kx)
      [.lo (.fz (.int p)), .lo (.fz w), .lo (.lst ((quo p ws.sum ws).map .int)), .lo (.fz (.int (leftP p ws.sum ws))), .lo (.fz (lstI (ordP (rst p ws.sum ws)))), .un, .lo (.fz (.int ws.sum)), .un] := by
    have hlf : leftP p ws.sum ws = ((leftP p ws.sum ws).toNat : Int) := by omega
    show forW [5] (gN 5) _ _ (cutW ((ordP (rst p ws.sum ws)).map W.int) none (some (leftP p ws.sum ws))) _
    rw [hlf, cut_takeI, ← List.map_take]
    have ok := ordP_ok (rst p ws.sum ws)
    have rng : ∀ a ∈ ordP (rst p ws.sum ws), 0 ≤ a ∧ a < ws.length := fun a ha => by
      have := mem_nats.mp (ok.perm.mem_iff.mp ha)
      rw [rst_len] at this
      exact this
    refine for_ind (fun j st => st = [.lo (.fz (.int p)), .lo (.fz w), .lo (.lst ((incs (quo p ws.sum ws) (((ordP (rst p ws.sum ws)).take (leftP p ws.sum ws).toNat).take j)).map .int)), .lo (.fz (.int ((leftP p ws.sum ws).toNat : Int))), .lo (.fz (lstI (ordP (rst p ws.sum ws)))), .un, .lo (.fz (.int ws.sum)), .un]) rfl ?_ ?_
    · rintro j wj hw' kk hkk st rfl
      rw [List.getElem?_map] at hw'
      obtain ⟨a, ha, rfl⟩ := Option.map_eq_some_iff.mp hw'
      have ra := rng a (List.mem_of_mem_take (List.mem_of_getElem? ha))
      obtain ⟨i, rfl⟩ : ∃ i : Nat, a = i := ⟨a.toNat, by omega⟩
      have hil : i < (incs (quo p ws.sum ws) (((ordP (rst p ws.sum ws)).take (leftP p ws.sum ws).toNat).take j)).length := by rw [incs_len, quo_len]; omega
      refine ⟨i, at0 (incs (quo p ws.sum ws) (((ordP (rst p ws.sum ws)).take (leftP p ws.sum ws).toNat).take j)) i, by omega, ixN_nat (by rw [List.length_map]; exact hil), by rw [List.getElem?_map, get_at0 hil]; rfl, rfl, hkk _ ?_⟩
      rw [take_snoc ha, incs_snoc]
      unfold inc
      rw [← set_ints]
      rfl
    · rintro st rfl
      rw [List.length_map, List.take_length]
      exact hk
  rcases hw with rfl | rfl
  · refine ⟨ws.length, fun i => .tup [.int (0 - at0 (rst p ws.sum ws) i), .int i], keyP (rst p ws.sum ws), by show ((ws.map W.int).length : Int) = _; rw [List.length_map], by have := wt.2; omega, fun i hi => ?_, fun i hi => rfl, al_keys _ _, sb_keys _ _, fun b _ => dp_keys _ b, ?_⟩
    · have ht := turn i hi
      refine ⟨.int (at0 ws i), L2.atI_nat (by rw [List.getElem?_map, get_at0 hi]; rfl), mulB p0 p1 ht.1 ht.2, by omega, lel 2 rfl, ?_, rfl⟩
      show R.w (W.tup [.int (0 - p * at0 ws i % ws.sum), .int i]) = R.w (W.tup [.int (0 - at0 (rst p ws.sum ws) i), .int i])
      rw [rst_at hi]
    · rw [hlen]
      exact after
  · refine ⟨ws.length, fun i => .tup [.int (0 - at0 (rst p ws.sum ws) i), .int i], keyP (rst p ws.sum ws), by show ((ws.map W.int).length : Int) = _; rw [List.length_map], by have := wt.2; omega, fun i hi => ?_, fun i hi => rfl, al_keys _ _, sb_keys _ _, fun b _ => dp_keys _ b, ?_⟩
    · have ht := turn i hi
      refine ⟨.int (at0 ws i), L2.atI_nat (by rw [List.getElem?_map, get_at0 hi]; rfl), mulB p0 p1 ht.1 ht.2, by omega, lel 2 rfl, ?_, rfl⟩
      show R.w (W.tup [.int (0 - p * at0 ws i % ws.sum), .int i]) = R.w (W.tup [.int (0 - at0 (rst p ws.sum ws) i), .int i])
      rw [rst_at hi]
    · rw [hlen]
      exact after
theorem m_split : Meets c_split 2 6 d_split := by
  intro ts k kx h
  obtain ⟨p, ws, w, rfl, hw, p0, p1, wt, hk, hx⟩ := h
  have s0 : 0 ≤ ws.sum := sum_nonneg ws fun x hx => (wt.1 x hx).1
  have s1 : ws.sum ≤ 60000000000000000 := by
    have := sum_le 1000000000000000 ws fun x hx => (wt.1 x hx).2
    have := wt.2
    omega
  have rep : ∀ n : Nat, (List.replicate ((n : Int)).toNat [W.int 0]).flatten = (List.replicate n (0 : Int)).map W.int := fun n => by
    rw [show ((n : Int)).toNat = n by omega, List.map_replicate]
    induction n with
    | zero => rfl
    | succ n ih => rw [List.replicate_succ, List.replicate_succ, List.flatten_cons, ih]; rfl
  have nil : splitO p ws = some (List.replicate ws.length 0) → k (.lst ((List.replicate ws.length (0 : Int)).map .int)) [.fz (.int p), .fz w] := hk _
  refine ⟨rfl, ws, hw.imp (fun e => by rw [e]) (fun e => by rw [e]), Or.inr ⟨_, rfl, br (fun t0 => br (fun h0 => ?_) fun h0 => ?_) fun t0 => ?_⟩⟩
  · exact hx (by unfold splitO; rw [if_pos t0, if_pos h0])
  · have e : splitO p ws = some (List.replicate ws.length 0) := by unfold splitO; rw [if_pos t0, if_neg h0]
    have hl := wt.2
    rcases hw with rfl | rfl
    · refine ⟨lel 1 rfl, ⟨⟨by omega, by rw [List.length_map]; omega, ?_⟩, ?_⟩⟩
      · rw [List.length_map]; exact Nat.le_trans (show 1 * ((ws.length : Int)).toNat ≤ 60 by omega) (by decide)
      · show k (.lst (List.replicate (((ws.map W.int).length : Nat) : Int).toNat [W.int 0]).flatten) _
        rw [List.length_map, rep]
        exact nil e
    · refine ⟨lel 1 rfl, ⟨⟨by omega, by rw [List.length_map]; omega, ?_⟩, ?_⟩⟩
      · rw [List.length_map]; exact Nat.le_trans (show 1 * ((ws.length : Int)).toNat ≤ 60 by omega) (by decide)
      · show k (.lst (List.replicate (((ws.map W.int).length : Nat) : Int).toNat [W.int 0]).flatten) _
        rw [List.length_map, rep]
        exact nil e
  · have e : splitO p ws = some (incs (quo p ws.sum ws) ((ordP (rst p ws.sum ws)).take (leftP p ws.sum ws).toNat)) := by unfold splitO; rw [if_neg t0]
    have turn : ∀ x ∈ ws, Turn' (.one 7) tYes' (dOp oDiv (dOp oTimes (dVar 0) (dVar 7)) (dVar 6)) [.lo (.fz (.int p)), .lo (.fz w), .un, .un, .un, .un, .lo (.fz (.int ws.sum)), .un] (fun _ => some (.int (p * x / ws.sum))) (W.int x) := fun x hx A B h =>
      ye ⟨mulB p0 p1 (wt.1 x hx).1 (wt.1 x hx).2, divB (by omega) s1, h⟩
    have go : ∀ fs, fs = (quo p ws.sum ws).map W.int → (dSeq (dAsg 3 (dOp oSub (dVar 0) (dCB cSum (aCons (dVar 2) aNil))))
        (dSeq (dAsg 4 (dFz (lSortKR (dCB cLen (aCons (dVar 1) aNil)) (dTup (aCons (dOp oSub (dC (.int 0)) (dOp oMod (dOp oTimes (dVar 0) (dOp oSub' (dVar 1) (dVar 8))) (dVar 6))) (aCons (dVar 8) aNil))))))
        (dSeq (dFor [5] (iSq (dFz (lCut (dVar 4) oNone (oPart (dVar 3))))) (gN 5)
        (dAugS (fun i j => i + j) (dVar 2) (dVar 5) (dC (.int 1))))
        (dRet (dVar 2))))) (endsOf [.fz (.int p), .fz w] k kx) [.lo (.fz (.int p)), .lo (.fz w), .lo (.lst fs), .un, .un, .un, .lo (.fz (.int ws.sum)), .un] := fun fs hf => by
      subst hf
      exact ⟨quo p ws.sum ws, rfl, split_tail hw p0 p1 wt t0 (hk _ e)⟩
    have hz : ws.length ≤ sizeLine := Nat.le_trans (show ws.length ≤ 60 by have := wt.2; omega) (by decide)
    rcases hw with rfl | rfl
    · exact compW_map (a := W.int) (b := fun x => .int (p * x / ws.sum)) turn hz (go _ (quo_map p ws.sum ws))
    · exact compW_map (a := W.int) (b := fun x => .int (p * x / ws.sum)) turn hz (go _ (quo_map p ws.sum ws))
def resW : Option (List Int) → W
  | some fs => lstI fs
  | none => .non
theorem atIn {l : List Int} {i : Nat} (h : i < l.length) : L2.atI (l.map W.int) (i : Int) = some (.int (at0 l i)) := L2.atI_nat (by rw [List.getElem?_map, get_at0 h]; rfl)
theorem ix_ints' {l : List Int} {i : Nat} {m : Int} (h1 : l[i]? = some m) (h2 : ∀ j, j < i → l[j]? ≠ some m) :
    (l.map PyData.int)[i]? = some (.int m) ∧ PyData.eqv (.int m) (.int m) = true ∧ ∀ (j : Nat) (z' : PyData), j < i → (l.map PyData.int)[j]? = some z' → PyData.eqv z' (.int m) = false := by
  refine ⟨by rw [List.getElem?_map, h1]; rfl, ?_, fun j z' hj hz => ?_⟩
  · show (m == m) = true
    simp
  · rw [List.getElem?_map] at hz
    obtain ⟨y, hy, rfl⟩ := Option.map_eq_some_iff.mp hz
    show (y == m) = false
    rw [beq_eq_false_iff_ne]
    intro e
    exact h2 j hj (by rw [hy, e])
def c__law_split : Ct := fun ts k _ => ∃ (p : Int) (ws : List Int), ts = [.fz (.int p), .fz (lstI ws)] ∧ 0 ≤ p ∧ p ≤ 1000000000000000 ∧ Wt 1000000000000000 ws ∧ k (.fz (resW (splitO p ws))) ts
/-- _law_split -/
def d__law_split : DS := (dSeq (dAsg 2 (dCB cSum (aCons (dVar 1) aNil)))
  (dSeq (dIf (dTest (dOp (oEqX false) (dVar 2) (dC (.int 0))))
  (dRet (dIfE (dTest (dOp (oEqX false) (dVar 0) (dC (.int 0)))) (dFz (lComp (iSq (dVar 1)) (.one 7) tYes' (dC (.int 0)))) (dC .non)))
  dNext)
  (dSeq (dAsgO 3 (lComp (iSq (dVar 1)) (.one 7) tYes' (dOp oDiv (dOp oTimes (dVar 0) (dVar 7)) (dVar 2))))
  (dSeq (dAsgO 4 (lComp (iSq (dVar 1)) (.one 7) tYes' (dOp oMod (dOp oTimes (dVar 0) (dVar 7)) (dVar 2))))
  (dSeq (dFor [5, 6] (iRg1 (aCons (dOp oSub (dVar 0) (dCB cSum (aCons (dVar 3) aNil))) aNil)) (gN 5)
  (dSeq (dAsg 6 (dMt "list" oIndex (dVar 4) (aCons (dCB cMax1 (aCons (dVar 4) aNil)) aNil)))
  (dSeq (dAsgG (gSubD (dVar 3) (dVar 6)) (dOp oPlus (dOp oSub' (dVar 3) (dVar 6)) (dC (.int 1))))
  (dAsgG (gSubD (dVar 4) (dVar 6)) (dUn (oU fun i => .int (-i)) (dC (.int 1)))))))
  (dRetF (dVar 3)))))))
theorem m__law_split : Meets c__law_split 2 6 d__law_split := by
  intro ts k kx h
  obtain ⟨p, ws, rfl, p0, p1, wt, hk⟩ := h
  have s0 : 0 ≤ ws.sum := sum_nonneg ws fun x hx => (wt.1 x hx).1
  have s1 : ws.sum ≤ 60000000000000000 := by
    have := sum_le 1000000000000000 ws fun x hx => (wt.1 x hx).2
    have := wt.2
    omega
  have hz : ws.length ≤ sizeLine := Nat.le_trans (show ws.length ≤ 60 by have := wt.2; omega) (by decide)
  refine ⟨rfl, ws, rfl, Or.inr ⟨_, rfl, br (fun t0 => Or.inr ⟨_, rfl, br (fun h0 => ?_) fun h0 => ?_⟩) fun t0 => ?_⟩⟩
  · have e : splitO p ws = some (List.replicate ws.length 0) := by unfold splitO; rw [if_pos t0, if_neg (by omega)]
    rw [e] at hk
    refine compW_map (a := W.int) (b := fun _ => .int 0) (fun x hx A B h => ye h) hz ?_
    have e2 : (ws.map fun _ => W.int 0) = (List.replicate ws.length (0 : Int)).map W.int := by rw [List.map_replicate, List.map_const']
    rw [e2]
    exact hk
  · have e : splitO p ws = none := by unfold splitO; rw [if_pos t0, if_pos (by omega)]
    rw [e] at hk
    exact hk
  · have e : splitO p ws = some (incs (quo p ws.sum ws) ((ordP (rst p ws.sum ws)).take (leftP p ws.sum ws).toNat)) := by unfold splitO; rw [if_neg t0]
    rw [e] at hk
    have lr := left_rng (p := p) (fun x hx => (wt.1 x hx).1) t0
    have hwl := wt.2
    have ok := ordP_ok (rst p ws.sum ws)
    have pos : ∀ x ∈ rst p ws.sum ws, 0 ≤ x := fun x hx => by
      obtain ⟨y, _, rfl⟩ := List.mem_map.mp hx
      exact Int.emod_nonneg _ t0
    have ol : (ordP (rst p ws.sum ws)).length = ws.length := by rw [ok.perm.length_eq, nats_len, rst_len]
    have loop : (dSeq (dFor [5, 6] (iRg1 (aCons (dOp oSub (dVar 0) (dCB cSum (aCons (dVar 3) aNil))) aNil)) (gN 5)
  (dSeq (dAsg 6 (dMt "list" oIndex (dVar 4) (aCons (dCB cMax1 (aCons (dVar 4) aNil)) aNil)))
  (dSeq (dAsgG (gSubD (dVar 3) (dVar 6)) (dOp oPlus (dOp oSub' (dVar 3) (dVar 6)) (dC (.int 1))))
  (dAsgG (gSubD (dVar 4) (dVar 6)) (dUn (oU fun i => .int (-i)) (dC (.int 1)))))))
  (dRetF (dVar 3))) (endsOf [.fz (.int p), .fz (lstI ws)] k kx) [.lo (.fz (.int p)), .lo (.fz (lstI ws)), .lo (.fz (.int ws.sum)), .lo (.lst ((quo p ws.sum ws).map .int)), .lo (.lst ((rst p ws.sum ws).map .int)), .un, .un, .un] := by
      refine ⟨quo p ws.sum ws, rfl, ⟨by show _ ≤ leftP p ws.sum ws; omega, by show leftP p ws.sum ws < _; omega⟩, ?_⟩
      refine for_ind (fun j st => st = [.lo (.fz (.int p)), .lo (.fz (lstI ws)), .lo (.fz (.int ws.sum)), .lo (.lst ((incs (quo p ws.sum ws) ((ordP (rst p ws.sum ws)).take j)).map .int)), .lo (.lst ((marks (rst p ws.sum ws) ((ordP (rst p ws.sum ws)).take j)).map .int)), .un, .un, .un]) rfl ?_ ?_
      · rintro j wj hw' kk hkk st rfl
        have hj : j < (leftP p ws.sum ws).toNat := by
          have := (List.getElem?_eq_some_iff.mp hw').1
          rwa [List.length_map, List.length_range] at this
        rw [List.getElem?_map] at hw'
        obtain ⟨j', _, rfl⟩ := Option.map_eq_some_iff.mp hw'
        obtain ⟨a, ha⟩ : ∃ a, (ordP (rst p ws.sum ws))[j]? = some a := ⟨_, List.getElem?_eq_getElem (by rw [ol]; omega)⟩
        refine ⟨rfl, marks (rst p ws.sum ws) ((ordP (rst p ws.sum ws)).take j), rfl, by rw [marks_len, rst_len]; omega, fun m hm mx => ?_⟩
        obtain ⟨a0, a1, a2, a3⟩ := pickP ok pos ha hm mx
        rw [rst_len] at a1
        obtain ⟨i, rfl⟩ : ∃ i : Nat, a = i := ⟨a.toNat, by omega⟩
        rw [show ((i : Int)).toNat = i by omega] at a2 a3
        have ix1 := ix_ints' a2 a3
        refine ⟨_, .int m, i, .int m, pds_ints _, rfl, shaped_ints _, rfl, ix1.1, ix1.2.1, ix1.2.2, ?_⟩
        have hi1 : i < (incs (quo p ws.sum ws) ((ordP (rst p ws.sum ws)).take j)).length := by rw [incs_len, quo_len]; omega
        have hi2 : i < (marks (rst p ws.sum ws) ((ordP (rst p ws.sum ws)).take j)).length := by rw [marks_len, rst_len]; omega
        refine ⟨.int (at0 (incs (quo p ws.sum ws) ((ordP (rst p ws.sum ws)).take j)) i), atIn hi1, i, ixN_nat (by rw [List.length_map]; exact hi1), i, ixN_nat (by rw [List.length_map]; exact hi2), hkk _ ?_⟩
        rw [take_snoc ha, incs_snoc, marks_snoc]
        unfold inc mark
        rw [← set_ints, ← set_ints]
        rfl
      · rintro st rfl
        rw [List.length_map, List.length_range]
        exact hk
    refine compW_map (a := W.int) (b := fun x => .int (p * x / ws.sum)) (fun x hx A B h => ye ⟨mulB p0 p1 (wt.1 x hx).1 (wt.1 x hx).2, divB (by omega) s1, h⟩) hz ?_
    rw [quo_map]
    refine compW_map (a := W.int) (b := fun x => .int (p * x % ws.sum)) (fun x hx A B h => ye ⟨mulB p0 p1 (wt.1 x hx).1 (wt.1 x hx).2, by omega, h⟩) hz ?_
    rw [rst_map]
    exact loop
def resT : Option (List Int) → T
  | some fs => .lst (fs.map .int)
  | none => .fz .non
def c__law_told_split : Ct := fun ts k _ => ∃ (p : Int) (ws : List Int) (w : W), ts = [.fz (.int p), .fz w] ∧ (w = lstI ws ∨ w = tupI ws) ∧ 0 ≤ p ∧ p ≤ 1000000000000000 ∧ Wt 1000000000000000 ws ∧ k (resT (splitO p ws)) ts
/-- _law_told_split -/
def d__law_told_split : DS := (dSeq (dAsg 2 (dC .non))
  (dSeq (dAsg 3 (dC (.bl false)))
  (dSeq (dTry (dAsgW 2 (dCallU c_split [.u 0, .u 1] [] 2 0 (aCons (dVar 0) (aCons (dVar 1) aNil)) aNil)) dNext [(tblC [(27, true)], some 4, (dAsg 3 (dIsX [(27, true)] (dVar 4))))])
  (dSeq (dIf (dTru (dVar 3))
  (dRet (dC .non))
  dNext)
  (dRetW (wIf (dTru (dIsi (.b "list") (dVar 2))) (wMv (dVar 2)) (wL (lDisp (aCons (dUn (oU fun i => .int (-i)) (dC (.int 1))) aNil)))))))))
theorem m__law_told_split : Meets c__law_told_split 2 3 d__law_told_split := by
  intro ts k kx h
  obtain ⟨p, ws, w, rfl, hw, p0, p1, wt, hk⟩ := h
  refine ⟨rfl, rfl, p, ws, w, rfl, hw, p0, p1, wt, fun fs hf => ?_, fun hn => ?_⟩
  · rw [hf] at hk
    exact no (ye hk)
  · rw [hn] at hk
    exact ye hk
def c__law_whole : Ct := fun ts k _ => ∃ i : Int, ts = [.fz (.int i)] ∧ k (.fz (.bl true)) ts
/-- _law_whole -/
def d__law_whole : DS := (dRet (dAndV (dIsi (.b "int") (dVar 0)) (dNotV (dIsi (.b "bool") (dVar 0)))))
theorem m__law_whole : Meets c__law_whole 1 0 d__law_whole := by
  intro ts k kx h
  obtain ⟨i, rfl, hk⟩ := h
  exact ⟨rfl, ye hk⟩
def c__law_far : Ct := fun ts k _ => ∃ (n : Nat) (p : Pen), ts = [penT p] ∧ PenB n p ∧ n ≤ 10000000 ∧ ∀ (i : Int) p', 0 ≤ i → i ≤ 1000000000000000 → PenB (n + 3) p' → k (.fz (.int i)) [penT p']
/-- _law_far -/
def d__law_far : DS := (dRet (dOp oPlus (dOp oPlus (dOp oTimes (dOf (dCallU c__law_draw [.u 0, .u 1] [] 2 0 (aCons (dVar 0) (aCons (dC (.int 1000)) aNil)) aNil)) (dOp oPow (dC (.int 10)) (dC (.int 12)))) (dOp oTimes (dOf (dCallU c__law_draw [.u 0, .u 1] [] 2 0 (aCons (dVar 0) (aCons (dOp oPow (dC (.int 10)) (dC (.int 6))) aNil)) aNil)) (dOp oPow (dC (.int 10)) (dC (.int 6))))) (dOf (dCallU c__law_draw [.u 0, .u 1] [] 2 0 (aCons (dVar 0) (aCons (dOp oPow (dC (.int 10)) (dC (.int 6))) aNil)) aNil))))
theorem m__law_far : Meets c__law_far 1 0 d__law_far := by
  intro ts k kx h
  obtain ⟨n, p, rfl, hp, hn, hk⟩ := h
  refine ⟨rfl, rfl, n, p, 1000, rfl, hp, by omega, by decide, by decide, fun a p1 a1 b1 hp1 => ?_⟩
  refine ⟨⟨by decide, by decide, by decide⟩, mul_small (by omega) (by omega) (by decide) (by decide), ?_⟩
  refine ⟨⟨by decide, by decide, by decide⟩, rfl, _, p1, 10 ^ 6, rfl, hp1, by omega, by decide, by decide, fun b p2 a2 b2 hp2 => ?_⟩
  have b2' : b < 1000000 := b2
  refine ⟨⟨by decide, by decide, by decide⟩, mul_small (by omega) (by omega) (by decide) (by decide), ?_⟩
  refine ⟨⟨by decide, by decide, by decide⟩, rfl, _, p2, 10 ^ 6, rfl, hp2, by omega, by decide, by decide, fun c p3 a3 b3 hp3 => ?_⟩
  have b3' : c < 1000000 := b3
  exact hk (a * 1000000000000 + b * 1000000 + c) p3 (by omega) (by omega) hp3
theorem rep_int (x : Int) (n : Nat) : (List.replicate ((n : Int)).toNat [W.int x]).flatten = (List.replicate n x).map W.int := by
  rw [show ((n : Int)).toNat = n by omega, List.map_replicate]
  induction n with
  | zero => rfl
  | succ n ih => rw [List.replicate_succ, List.replicate_succ, List.flatten_cons, ih]; rfl
theorem pickI3 {x y z d : Int} (h0 : 0 ≤ d) (h1 : d < 3) : ∃ i : Int, L2.atI [W.int x, .int y, .int z] d = some (.int i) ∧ (i = x ∨ i = y ∨ i = z) := by
  rcases (show d = 0 ∨ d = 1 ∨ d = 2 by omega) with rfl | rfl | rfl <;> exact ⟨_, rfl, by simp⟩
def c__law_weights : Ct := fun ts k _ => ∃ (n : Nat) (p : Pen), ts = [penT p] ∧ PenB n p ∧ n ≤ 1000000 ∧ ∀ ws p', Wt 1000000000000000 ws → PenB (n + 30) p' → k (.fz (lstI ws)) [penT p']
/-- _law_weights -/
def d__law_weights : DS := (dSeq (dAsg 1 (dOf (dCallU c__law_draw [.u 0, .u 1] [] 2 0 (aCons (dVar 0) (aCons (dC (.int 6)) aNil)) aNil)))
  (dSeq (dAsg 2 (dOf (dCallU c__law_draw [.u 0, .u 1] [] 2 0 (aCons (dVar 0) (aCons (dC (.int 8)) aNil)) aNil)))
  (dSeq (dAsg 3 (dOp oSub' (dFz (lDisp (aCons (dC (.int 2)) (aCons (dC (.int 5)) (aCons (dC (.int 1000)) aNil))))) (dOf (dCallU c__law_draw [.u 0, .u 1] [] 2 0 (aCons (dVar 0) (aCons (dC (.int 3)) aNil)) aNil))))
  (dSeq (dIf (dTest (dOp (oEqX false) (dVar 1) (dC (.int 0))))
  (dRet (dOp oTimes (dFz (lDisp (aCons (dOf (dCallU c__law_draw [.u 0, .u 1] [] 2 0 (aCons (dVar 0) (aCons (dVar 3) aNil)) aNil)) aNil))) (dVar 2)))
  dNext)
  (dSeq (dIf (dTest (dOp (oEqX false) (dVar 1) (dC (.int 1))))
  (dRet (dOp oTimes (dFz (lDisp (aCons (dC (.int 0)) aNil))) (dVar 2)))
  dNext)
  (dSeq (dIf (dTest (dOp (oEqX false) (dVar 1) (dC (.int 2))))
  (dRet (dFz (lComp (iRg1 (aCons (dVar 2) aNil)) (.one 4) tYes' (dOf (dCallU c__law_far [.u 0] [] 1 0 (aCons (dVar 0) aNil) aNil)))))
  dNext)
  (dRet (dFz (lComp (iRg1 (aCons (dVar 2) aNil)) (.one 4) tYes' (dOf (dCallU c__law_draw [.u 0, .u 1] [] 2 0 (aCons (dVar 0) (aCons (dVar 3) aNil)) aNil)))))))))))
theorem m__law_weights : Meets c__law_weights 1 4 d__law_weights := by
  intro ts k kx h
  obtain ⟨n, p, rfl, hp, hn, hk⟩ := h
  refine ⟨rfl, rfl, n, p, 6, rfl, hp, by omega, by decide, by decide, fun way p1 a1 b1 hp1 => ?_⟩
  refine ⟨rfl, _, p1, 8, rfl, hp1, by omega, by decide, by decide, fun many p2 a2 b2 hp2 => ?_⟩
  obtain ⟨m, rfl⟩ : ∃ m : Nat, many = m := ⟨many.toNat, by omega⟩
  refine ⟨lel 3 rfl, rfl, _, p2, 3, rfl, hp2, by omega, by decide, by decide, fun d p3 a3 b3 hp3 => ?_⟩
  obtain ⟨wide, hwd, hcase⟩ := pickI3 (x := 2) (y := 5) (z := 1000) a3 b3
  have w1 : 2 ≤ wide := by rcases hcase with e | e | e <;> omega
  have w2 : wide ≤ 1000 := by rcases hcase with e | e | e <;> omega
  refine ⟨.int wide, hwd, Or.inr ⟨_, rfl, br (fun _ => ?_) fun _ => Or.inr ⟨_, rfl, br (fun _ => ?_) fun _ => Or.inr ⟨_, rfl, br (fun _ => ?_) fun _ => ?_⟩⟩⟩⟩
  · refine ⟨rfl, _, p3, wide, rfl, hp3, by omega, by omega, by omega, fun x p4 a4 b4 hp4 => ?_⟩
    refine ⟨lel 1 rfl, ⟨by omega, by omega, ?_⟩, ?_⟩
    · exact Nat.le_trans (show 1 * ((m : Int)).toNat ≤ 60 by omega) (by decide)
    · show k (.fz (.lst (List.replicate ((m : Int)).toNat [W.int x]).flatten)) [penT p4]
      rw [rep_int]
      exact hk _ p4 ⟨fun y hy => by rw [(List.mem_replicate.mp hy).2]; omega, by rw [List.length_replicate]; omega⟩ (hp4.mono (by omega))
  · refine ⟨lel 1 rfl, ⟨by omega, by omega, ?_⟩, ?_⟩
    · exact Nat.le_trans (show 1 * ((m : Int)).toNat ≤ 60 by omega) (by decide)
    · show k (.fz (.lst (List.replicate ((m : Int)).toNat [W.int 0]).flatten)) [penT p3]
      rw [rep_int]
      exact hk _ p3 ⟨fun y hy => by rw [(List.mem_replicate.mp hy).2]; omega, by rw [List.length_replicate]; omega⟩ (hp3.mono (by omega))
  · refine ⟨⟨by omega, by omega⟩, ?_⟩
    refine compW_st (fun j acc st => ∃ (l : List Int) (p' : Pen), acc = l.map W.int ∧ l.length = j ∧ (∀ x ∈ l, 0 ≤ x ∧ x ≤ 1000000000000000) ∧ PenB (n + 3 + 3 * j) p' ∧
      st = [.mp 0 (penT p'), .lo (.fz (.int way)), .lo (.fz (.int m)), .lo (.fz (.int wide)), .un]) ⟨[], p3, rfl, rfl, fun _ h => (nomatch h), hp3, rfl⟩ ?_ ?_ ?_
    · rintro j w hw acc st ⟨l, p', rfl, hl, hx, hp', rfl⟩ A B hA hB
      have hj : j < m := by
        have := (List.getElem?_eq_some_iff.mp hw).1
        rw [List.length_map, List.length_range] at this
        omega
      rw [List.getElem?_map] at hw
      obtain ⟨x, hi, rfl⟩ := Option.map_eq_some_iff.mp hw
      refine ye ⟨rfl, _, p', rfl, hp', by omega, fun x p4 a4 b4 hp4 => ?_⟩
      exact hA _ _ ⟨l ++ [x], p4, by simp, by simp [hl], fun y hy => by
        rcases List.mem_append.mp hy with z | z
        · exact hx y z
        · rw [List.mem_singleton.mp z]; exact ⟨a4, b4⟩, hp4.mono (by omega), rfl⟩
    · rw [List.length_map, List.length_range]
      exact Nat.le_trans (show ((m : Int)).toNat ≤ 60 by omega) (by decide)
    · rintro acc st ⟨l, p', rfl, hl, hx, hp', rfl⟩
      rw [List.length_map, List.length_range] at hl hp'
      exact hk l p' ⟨hx, by omega⟩ (hp'.mono (by omega))
  · refine ⟨⟨by omega, by omega⟩, ?_⟩
    refine compW_st (fun j acc st => ∃ (l : List Int) (p' : Pen), acc = l.map W.int ∧ l.length = j ∧ (∀ x ∈ l, 0 ≤ x ∧ x ≤ 1000000000000000) ∧ PenB (n + 3 + 3 * j) p' ∧
      st = [.mp 0 (penT p'), .lo (.fz (.int way)), .lo (.fz (.int m)), .lo (.fz (.int wide)), .un]) ⟨[], p3, rfl, rfl, fun _ h => (nomatch h), hp3, rfl⟩ ?_ ?_ ?_
    · rintro j w hw acc st ⟨l, p', rfl, hl, hx, hp', rfl⟩ A B hA hB
      have hj : j < m := by
        have := (List.getElem?_eq_some_iff.mp hw).1
        rw [List.length_map, List.length_range] at this
        omega
      rw [List.getElem?_map] at hw
      obtain ⟨x, hi, rfl⟩ := Option.map_eq_some_iff.mp hw
      refine ye ⟨rfl, _, p', wide, rfl, hp', by omega, by omega, by omega, fun x p4 a4 b4 hp4 => ?_⟩
      exact hA _ _ ⟨l ++ [x], p4, by simp, by simp [hl], fun y hy => by
        rcases List.mem_append.mp hy with z | z
        · exact hx y z
        · rw [List.mem_singleton.mp z]; omega, hp4.mono (by omega), rfl⟩
    · rw [List.length_map, List.length_range]
      exact Nat.le_trans (show ((m : Int)).toNat ≤ 60 by omega) (by decide)
    · rintro acc st ⟨l, p', rfl, hl, hx, hp', rfl⟩
      rw [List.length_map, List.length_range] at hl hp'
      exact hk l p' ⟨hx, by omega⟩ (hp'.mono (by omega))
theorem pickW4 {a b c e : Int} {d : Int} (h0 : 0 ≤ d) (h1 : d < 4) : ∃ i : Int, L2.atI [W.int a, .int b, .int c, .int e] d = some (.int i) ∧ (i = a ∨ i = b ∨ i = c ∨ i = e) := by
  rcases (show d = 0 ∨ d = 1 ∨ d = 2 ∨ d = 3 by omega) with rfl | rfl | rfl | rfl <;> exact ⟨_, rfl, by simp⟩
theorem eqWs_ints : ∀ fs : List Int, eqWs (eqW 6) (fs.map W.int) (fs.map W.int) = some true
  | [] => rfl
  | f :: fs => by
    have ih := eqWs_ints fs
    have e : eqW 6 (.int f) (.int f) = some true := by
      show some (decide (f = f)) = some true
      rw [decide_eq_true rfl]
    rw [List.map_cons]
    unfold eqWs
    simp only [e, ih]
    try rfl
theorem eqD_ints (fs : List Int) : eqD 6 (.lst (fs.map W.int)) (.lst (fs.map W.int)) = some true := eqWs_ints fs
theorem compG_none {ok : S → Prop} {ct : CT} {cond : DT} {elt : DE} {st : S} {k : List W → S → Prop} (hok : ok st) (hk : k [] st) : ∀ ws : List W, (∀ w ∈ ws, Turn' ct cond elt st (fun _ => none) w) → compG ok ct cond elt ws [] st k
  | [], _ => ⟨hok, hk⟩
  | w :: ws, ht => ⟨hok, ht w List.mem_cons_self (fun v st' => ([] : List W).length < sizeLine ∧ compG ok ct cond elt ws ([] ++ [v]) st' k) (fun st' => compG ok ct cond elt ws [] st' k) (compG_none hok hk ws fun u hu => ht u (List.mem_cons_of_mem _ hu))⟩
/-- law -/
@[irreducible] def d_law_1 : DS := (dAsgW 1 (dCallU c__law_pen [.u 0] [] 1 0 (aCons (dVar 0) aNil) aNil))
@[irreducible] def d_law_2 : DS := (dAsg 3 (dOp oSub' (dFz (lDisp (aCons (dOf (dCallU c__law_draw [.u 0, .u 1] [] 2 0 (aCons (dVar 1) (aCons (dC (.int 20)) aNil)) aNil)) (aCons (dOf (dCallU c__law_draw [.u 0, .u 1] [] 2 0 (aCons (dVar 1) (aCons (dC (.int 5000)) aNil)) aNil)) (aCons (dOf (dCallU c__law_far [.u 0] [] 1 0 (aCons (dVar 1) aNil) aNil)) (aCons (dC (.int 0)) aNil)))))) (dOf (dCallU c__law_draw [.u 0, .u 1] [] 2 0 (aCons (dVar 1) (aCons (dC (.int 4)) aNil)) aNil))))
@[irreducible] def d_law_3 : DS := (dAsg 4 (dOf (dCallU c__law_weights [.u 0] [] 1 0 (aCons (dVar 1) aNil) aNil)))
@[irreducible] def d_law_4 : DS := (dAsg 6 (dOf (dCallU c__law_split [.u 0, .u 1] [] 2 0 (aCons (dVar 3) (aCons (dVar 4) aNil)) aNil)))
@[irreducible] def d_law_5 : DS := (dAsgW 7 (dCallU c__law_told_split [.u 0, .u 1] [] 2 0 (aCons (dVar 3) (aCons (dVar 4) aNil)) aNil))
@[irreducible] def d_law_6 : DS := (dIf (dOr (dTest (dOp (oEqX true) (dVar 7) (dVar 6))) (dOr (dTest (dOp (oEqX true) (dVar 4) (dVar 5))) (dTest (dOp (oEqX true) (dFrz (dCallU c__law_told_split [.u 0, .u 1] [] 2 0 (aCons (dVar 3) (aCons (dCB cTuple (aCons (dVar 4) aNil)) aNil)) aNil)) (dVar 6)))))
  (dRet (dC (.bl false)))
  dNext)
@[irreducible] def d_law_7 : DS := (dIf (dTest (dOp (oEqX true) (dFz (lCompV (dVar 7) (.one 8) (dNot (dTru (dOf (dCallU c__law_whole [.u 0] [] 1 0 (aCons (dVar 8) aNil) aNil)))) (dVar 8))) (dFz (lDisp aNil))))
  (dRet (dC (.bl false)))
  dNext)
@[irreducible] def d_law_8 : DS := (dIf (dOr (dTest (dOp (oEqX true) (dVar 4) (dVar 5))) (dTest (dOp (oEqX true) (dFrz (dCallU c__law_told_split [.u 0, .u 1] [] 2 0 (aCons (dVar 3) (aCons (dVar 4) aNil)) aNil)) (dVar 6))))
  (dRet (dC (.bl false)))
  dNext)
@[irreducible] def d_law_9 : DS := (dIf (dTest (dUn oNotN (dVar 6)))
  (dSeq d_law_7
  (dSeq (dExpr (dMutL fAppend (dVar 7) (aCons (dC (.int 7)) aNil)))
  d_law_8))
  dNext)
@[irreducible] def d_law_10 : DS := (dFor [2, 3, 4, 5, 6, 7] (iRg1 (aCons (dOp oPlus (dC (.int 4)) (dCB cMin2 (aCons (dC (.int 10)) (aCons (dCB cLen (aCons (dVar 0) aNil)) aNil)))) aNil)) (gN 2)
  (dSeq d_law_2
  (dSeq d_law_3
  (dSeq (dAsg 5 (dFz (lCB cList (aCons (dVar 4) aNil))))
  (dSeq d_law_4
  (dSeq d_law_5
  (dSeq d_law_6
  d_law_9)))))))
def d_law : DS := (dSeq d_law_1
  (dSeq d_law_10
  (dRet (dAndV (dOp (oEqX false) (dFrz (dCallU c_split [.k 0, .k 1] [] 0 2 aNil (aCons (dC (.int 5)) (aCons (dFz (lDisp (aCons (dC (.int 1)) (aCons (dC (.int 1)) aNil)))) aNil)))) (dFz (lDisp (aCons (dC (.int 3)) (aCons (dC (.int 2)) aNil))))) (dOp (oEqX false) (dFrz (dCallU c_split [.u 0, .u 1] [] 2 0 (aCons (dC (.int 0)) (aCons (dFz (lDisp aNil)) aNil)) aNil)) (dFz (lDisp aNil)))))))
section
variable {D : DEnds} {x0 x2 x3 x6 x7 x8 : Sl} {n : Nat} {p : Pen} {pe : Int} {ws : List Int} {o : Option (List Int)}
abbrev pS (p : Pen) : Sl := .lo (penT p)
abbrev iS (i : Int) : Sl := .lo (.fz (.int i))
abbrev wS (ws : List Int) : Sl := .lo (.fz (lstI ws))
theorem law_2 (hp : PenB n p) (hn : n ≤ 1000000) (h : ∀ pe p', 0 ≤ pe → pe ≤ 1000000000000000 → PenB (n + 6) p' → D.nx [x0, pS p', x2, iS pe, .un, .un, .un, .un, .un]) : d_law_2 D [x0, pS p, x2, .un, .un, .un, .un, .un, .un] := by
  unfold d_law_2
  refine ⟨rfl, n, p, 20, rfl, hp, by omega, by decide, by decide, fun a p1 a1 b1 hp1 => ?_⟩
  refine ⟨rfl, _, p1, 5000, rfl, hp1, by omega, by decide, by decide, fun b p2 a2 b2 hp2 => ?_⟩
  refine ⟨rfl, _, p2, rfl, hp2, by omega, fun c p3 a3 b3 hp3 => ?_⟩
  refine ⟨lel 4 rfl, rfl, _, p3, 4, rfl, hp3, by omega, by decide, by decide, fun d p4 a4 b4 hp4 => ?_⟩
  obtain ⟨x, hx, hc⟩ := pickW4 (a := a) (b := b) (c := c) (e := 0) a4 b4
  refine ⟨.int x, hx, h x p4 ?_ ?_ (hp4.mono (by omega))⟩
  · rcases hc with e | e | e | e <;> omega
  · rcases hc with e | e | e | e <;> omega
theorem law_3 (hp : PenB n p) (hn : n ≤ 1000000) (h : ∀ ws p', Wt 1000000000000000 ws → PenB (n + 30) p' → D.nx [x0, pS p', x2, x3, wS ws, .un, .un, .un, .un]) : d_law_3 D [x0, pS p, x2, x3, .un, .un, .un, .un, .un] := by
  unfold d_law_3
  exact ⟨rfl, n, p, rfl, hp, hn, h⟩
theorem law_4 (p0 : 0 ≤ pe) (p1 : pe ≤ 1000000000000000) (wt : Wt 1000000000000000 ws) (h : D.nx [x0, pS p, x2, iS pe, wS ws, wS ws, .lo (.fz (resW (splitO pe ws))), .un, .un]) : d_law_4 D [x0, pS p, x2, iS pe, wS ws, wS ws, .un, .un, .un] := by
  unfold d_law_4
  exact ⟨rfl, pe, ws, rfl, p0, p1, wt, h⟩
theorem law_5 (p0 : 0 ≤ pe) (p1 : pe ≤ 1000000000000000) (wt : Wt 1000000000000000 ws) (h : D.nx [x0, pS p, x2, iS pe, wS ws, wS ws, x6, .lo (resT (splitO pe ws)), .un]) : d_law_5 D [x0, pS p, x2, iS pe, wS ws, wS ws, x6, .un, .un] := by
  unfold d_law_5
  exact ⟨rfl, pe, ws, _, rfl, .inl rfl, p0, p1, wt, h⟩
theorem law_6 (p0 : 0 ≤ pe) (p1 : pe ≤ 1000000000000000) (wt : Wt 1000000000000000 ws) (ho : splitO pe ws = o) (h : D.nx [x0, pS p, x2, iS pe, wS ws, wS ws, .lo (.fz (resW o)), .lo (resT o), .un]) : d_law_6 D [x0, pS p, x2, iS pe, wS ws, wS ws, .lo (.fz (resW o)), .lo (resT o), .un] := by
  unfold d_law_6
  cases o with
  | none =>
    refine Or.inr ⟨_, rfl, no (Or.inr ⟨true, eqD_ints ws, no ⟨rfl, pe, ws, _, rfl, .inr rfl, p0, p1, wt, ?_⟩⟩)⟩
    rw [ho]
    exact Or.inr ⟨_, rfl, no h⟩
  | some fs =>
    refine Or.inr ⟨true, eqD_ints fs, no (Or.inr ⟨true, eqD_ints ws, no ⟨rfl, pe, ws, _, rfl, .inr rfl, p0, p1, wt, ?_⟩⟩)⟩
    rw [ho]
    exact Or.inr ⟨true, eqD_ints fs, no h⟩
theorem law_8 {fs : List Int} {x7 : Sl} (p0 : 0 ≤ pe) (p1 : pe ≤ 1000000000000000) (wt : Wt 1000000000000000 ws) (ho : splitO pe ws = some fs) (h : D.nx [x0, pS p, x2, iS pe, wS ws, wS ws, wS fs, x7, .un]) : d_law_8 D [x0, pS p, x2, iS pe, wS ws, wS ws, wS fs, x7, .un] := by
  unfold d_law_8
  refine Or.inr ⟨true, eqD_ints ws, no ⟨rfl, pe, ws, _, rfl, .inl rfl, p0, p1, wt, ?_⟩⟩
  rw [ho]
  exact Or.inr ⟨true, eqD_ints fs, no h⟩
theorem law_7 {fs : List Int} (h : D.nx [x0, pS p, x2, x3, wS ws, wS ws, wS fs, .lo (.lst (fs.map .int)), .un]) : d_law_7 D [x0, pS p, x2, x3, wS ws, wS ws, wS fs, .lo (.lst (fs.map .int)), .un] := by
  unfold d_law_7
  show compG (fun st => at' st 7 = .lo (.lst (fs.map .int))) (.one 8) (dNot (dTru (dOf (dCallU c__law_whole [Src.u 0] [] 1 0 (aCons (dVar 8) aNil) aNil)))) (dVar 8) (fs.map W.int) [] [x0, pS p, x2, x3, wS ws, wS ws, wS fs, .lo (.lst (fs.map .int)), .un] _
  refine compG_none ?_ ?_ _ fun w hw A B hb => ?_
  · rfl
  · exact ⟨lel 0 rfl, Or.inr ⟨_, rfl, no h⟩⟩
  · obtain ⟨i, _, rfl⟩ := List.mem_map.mp hw
    exact ⟨rfl, i, rfl, no hb⟩
theorem split_len {fs : List Int} (ho : splitO pe ws = some fs) : fs.length = ws.length := by
  unfold splitO at ho
  split at ho
  · split at ho
    · cases ho
    · cases ho; exact List.length_replicate
  · cases ho
    rw [incs_len, quo_len]
theorem law_9 (p0 : 0 ≤ pe) (p1 : pe ≤ 1000000000000000) (wt : Wt 1000000000000000 ws) (ho : splitO pe ws = o) (h : ∀ x7, D.nx [x0, pS p, x2, iS pe, wS ws, wS ws, .lo (.fz (resW o)), x7, .un]) : d_law_9 D [x0, pS p, x2, iS pe, wS ws, wS ws, .lo (.fz (resW o)), .lo (resT o), .un] := by
  unfold d_law_9
  cases o with
  | none => exact no (h _)
  | some fs =>
    refine ye (law_7 (D := { D with nx := _ }) ?_)
    have hl := split_len ho
    refine ⟨Nat.lt_of_lt_of_le (show (fs.map W.int).length < 60 by rw [List.length_map, hl]; exact wt.2) (by decide), ?_⟩
    exact law_8 p0 p1 wt ho (h _)
theorem law_turn (hp : PenB n p) (hn : n ≤ 900000) (h : ∀ x2 x3 x4 x5 x6 x7 p', PenB (n + 100) p' → D.nx [x0, pS p', x2, x3, x4, x5, x6, x7, .un]) :
    (dSeq d_law_2 (dSeq d_law_3 (dSeq (dAsg 5 (dFz (lCB cList (aCons (dVar 4) aNil)))) (dSeq d_law_4 (dSeq d_law_5 (dSeq d_law_6 d_law_9)))))) D [x0, pS p, x2, .un, .un, .un, .un, .un, .un] := by
  refine law_2 (D := { D with nx := _ }) hp (by omega) fun pe p1 a0 a1 hp1 => ?_
  refine law_3 (D := { D with nx := _ }) hp1 (by omega) fun ws p2 wt hp2 => ?_
  refine law_4 (D := { D with nx := _ }) a0 a1 wt ?_
  refine law_5 (D := { D with nx := _ }) a0 a1 wt ?_
  refine law_6 (D := { D with nx := _ }) a0 a1 wt rfl ?_
  exact law_9 a0 a1 wt rfl fun x7 => h _ _ _ _ _ _ p2 (hp2.mono (by omega))
end
theorem law_10 {D : DEnds} {ns : List Int} {p : Pen} (hp : PenB 0 p) (hl : ns.length ≤ 63) (h : ∀ p', D.nx [.lo (.fz (.scr ns)), pS p', .un, .un, .un, .un, .un, .un, .un]) : d_law_10 D [.lo (.fz (.scr ns)), pS p, .un, .un, .un, .un, .un, .un, .un] := by
  unfold d_law_10
  have hm : (if (ns.length : Int) < 10 then (ns.length : Int) else 10) ≤ 10 := by split <;> omega
  have hm0 : 0 ≤ (if (ns.length : Int) < 10 then (ns.length : Int) else 10) := by split <;> omega
  refine ⟨⟨by omega, by omega⟩, ?_⟩
  refine for_ind (fun j st => ∃ p', PenB (100 * j) p' ∧ st = [.lo (.fz (.scr ns)), pS p', .un, .un, .un, .un, .un, .un, .un]) ⟨p, hp, rfl⟩ ?_ ?_
  · rintro j w hw kk hkk st ⟨p', hp', rfl⟩
    have hj : j < 15 := by
      have := (List.getElem?_eq_some_iff.mp hw).1
      rw [List.length_map, List.length_range] at this
      omega
    rw [List.getElem?_map] at hw
    obtain ⟨j', h1, rfl⟩ := Option.map_eq_some_iff.mp hw
    refine law_turn hp' (by omega) fun _ _ _ _ _ _ p2 hp2 => ?_
    exact hkk _ ⟨p2, hp2.mono (by omega), rfl⟩
  · rintro st ⟨p', _, rfl⟩
    exact h p'
theorem ord11 : ordP [1, 1] = [0, 1] := by
  have ok := ordP_ok [1, 1]
  have e : ∀ a b : Int, dataLe false (keyP [1, 1]) a b = decide (0 - at0 [1, 1] a < 0 - at0 [1, 1] b ∨ (0 - at0 [1, 1] a = 0 - at0 [1, 1] b ∧ a ≤ b)) := fun a b => congrFun (congrFun (PySem.W.dataLe_ii (β := Int) (fun i => 0 - at0 [1, 1] i) (fun i => i)) a) b
  unfold ordP
  have : nats ([1, 1] : List Int).length = [0, 1] := rfl
  rw [this]
  have e01 : dataLe false (keyP [1, 1]) 0 1 = true := by rw [e]; decide
  exact List.mergeSort_of_pairwise (by simp [e01])
theorem split52 : splitO 5 [1, 1] = some [3, 2] := by
  show some (incs [2, 2] ((ordP [1, 1]).take 1)) = _
  rw [ord11]
  rfl
theorem m_law : Meets c_law 1 8 d_law := by
  intro ts k kx h
  obtain ⟨ns, rfl, hl, hk⟩ := h
  refine ⟨rfl, ?_⟩
  have l1 : ∀ {D : DEnds}, D.nx [.lo (.fz (.scr ns)), pS ⟨ns, 0, 0⟩, .un, .un, .un, .un, .un, .un, .un] → d_law_1 D [.lo (.fz (.scr ns)), .un, .un, .un, .un, .un, .un, .un, .un] := fun h => by
    unfold d_law_1
    exact ⟨rfl, ns, rfl, hl, h⟩
  refine l1 ?_
  refine law_10 ⟨Int.le_refl _, Int.le_refl _, Int.le_refl _⟩ hl fun p' => ?_
  have w2 : Wt 1000000000000000 [1, 1] := ⟨by decide, by decide⟩
  have w0 : Wt 1000000000000000 [] := ⟨by decide, by decide⟩
  refine ⟨lel 2 rfl, rfl, 5, [1, 1], lstI [1, 1], rfl, .inl rfl, by decide, by decide, w2, fun fs hf => ?_, fun hn => ?_⟩
  · rw [split52] at hf
    cases hf
    refine ⟨lel 2 rfl, Or.inr ⟨_, rfl, ye ⟨lel 0 rfl, rfl, 0, [], lstI [], rfl, .inl rfl, by decide, by decide, w0, fun fs hf => ?_, fun hn => ?_⟩⟩⟩
    · have : splitO 0 [] = some [] := rfl
      rw [this] at hf
      cases hf
      exact ⟨lel 0 rfl, Or.inr ⟨_, rfl, hk⟩⟩
    · cases hn
  · rw [split52] at hn
    cases hn
end Y
namespace Y
open PySem L2
open PySem.Spec PyProof.Rows
def top (i : Nat) : Stmt := PySem.Challenge.pw_yarnback_k38_pence_split.main.body.getD i (.Pass ⟨0, 0, 0, 0⟩)
abbrev s_split : Stmt := top 3
abbrev N_split : List Str := ["pence", "weights", "found", "left", "order", "at", "total", "weight"]
theorem sc_split : FnScope N_split ["pence", "weights"] (defScope s_split) := ⟨rfl, rfl, rfl, by decide +kernel, rfl, by decide +kernel, by decide +kernel⟩
abbrev s__law_pen : Stmt := top 5
abbrev N__law_pen : List Str := ["script", "cell"]
theorem sc__law_pen : FnScope N__law_pen ["script"] (defScope s__law_pen) := ⟨rfl, rfl, rfl, by decide +kernel, rfl, by decide +kernel, by decide +kernel⟩
abbrev s__law_draw : Stmt := top 6
abbrev N__law_draw : List Str := ["pen", "many", "digit", "at", "cell", "number", "again"]
theorem sc__law_draw : FnScope N__law_draw ["pen", "many"] (defScope s__law_draw) := ⟨rfl, rfl, rfl, by decide +kernel, rfl, by decide +kernel, by decide +kernel⟩
abbrev s__law_far : Stmt := top 7
abbrev N__law_far : List Str := ["pen"]
theorem sc__law_far : FnScope N__law_far ["pen"] (defScope s__law_far) := ⟨rfl, rfl, rfl, by decide +kernel, rfl, by decide +kernel, by decide +kernel⟩
abbrev s__law_split : Stmt := top 8
abbrev N__law_split : List Str := ["a_pence", "a_weights", "total", "found", "rests", "k", "at", "weight"]
theorem sc__law_split : FnScope N__law_split ["a_pence", "a_weights"] (defScope s__law_split) := ⟨rfl, rfl, rfl, by decide +kernel, rfl, by decide +kernel, by decide +kernel⟩
abbrev s__law_told_split : Stmt := top 9
abbrev N__law_told_split : List Str := ["a_pence", "a_weights", "found", "refused", "e"]
theorem sc__law_told_split : FnScope N__law_told_split ["a_pence", "a_weights"] (defScope s__law_told_split) := ⟨rfl, rfl, rfl, by decide +kernel, rfl, by decide +kernel, by decide +kernel⟩
abbrev s__law_whole : Stmt := top 10
abbrev N__law_whole : List Str := ["thing"]
theorem sc__law_whole : FnScope N__law_whole ["thing"] (defScope s__law_whole) := ⟨rfl, rfl, rfl, by decide +kernel, rfl, by decide +kernel, by decide +kernel⟩
abbrev s__law_weights : Stmt := top 11
abbrev N__law_weights : List Str := ["pen", "way", "many", "wide", "k"]
theorem sc__law_weights : FnScope N__law_weights ["pen"] (defScope s__law_weights) := ⟨rfl, rfl, rfl, by decide +kernel, rfl, by decide +kernel, by decide +kernel⟩
abbrev s_law : Stmt := top 12
abbrev N_law : List Str := ["script", "pen", "turn", "a_pence", "a_weights", "kept", "due", "found", "one"]
theorem sc_law : FnScope N_law ["script"] (defScope s_law) := ⟨rfl, rfl, rfl, by decide +kernel, rfl, by decide +kernel, by decide +kernel⟩
abbrev hsC : List (Nat × Str) := []
abbrev xsC : List (Nat × Str) := [(27, "NothingMade")]
abbrev tsC : List (Str × Str) := [("split", "split.<locals>.<lambda>")]
abbrev zx (K : PySem.W.Frag) : Zx := zxT hsC xsC tsC K
abbrev D_split : He.DefD := ⟨("split", none), "split", "split", defArgs s_split, defBody s_split, defScope s_split, [], []⟩
abbrev D__law_pen : He.DefD := ⟨("_law_pen", none), "_law_pen", "_law_pen", defArgs s__law_pen, defBody s__law_pen, defScope s__law_pen, [], []⟩
abbrev D__law_draw : He.DefD := ⟨("_law_draw", none), "_law_draw", "_law_draw", defArgs s__law_draw, defBody s__law_draw, defScope s__law_draw, [], []⟩
abbrev D__law_far : He.DefD := ⟨("_law_far", none), "_law_far", "_law_far", defArgs s__law_far, defBody s__law_far, defScope s__law_far, [], []⟩
abbrev D__law_split : He.DefD := ⟨("_law_split", none), "_law_split", "_law_split", defArgs s__law_split, defBody s__law_split, defScope s__law_split, [], []⟩
abbrev D__law_told_split : He.DefD := ⟨("_law_told_split", none), "_law_told_split", "_law_told_split", defArgs s__law_told_split, defBody s__law_told_split, defScope s__law_told_split, [], []⟩
abbrev D__law_whole : He.DefD := ⟨("_law_whole", none), "_law_whole", "_law_whole", defArgs s__law_whole, defBody s__law_whole, defScope s__law_whole, [], []⟩
abbrev D__law_weights : He.DefD := ⟨("_law_weights", none), "_law_weights", "_law_weights", defArgs s__law_weights, defBody s__law_weights, defScope s__law_weights, [], []⟩
abbrev D_law : He.DefD := ⟨("law", none), "law", "law", defArgs s_law, defBody s_law, defScope s_law, [], []⟩
abbrev FA : List Ck := [(He.Fa.glo "split").ok, (He.Fa.glo "_law_pen").ok, (He.Fa.glo "_law_draw").ok, (He.Fa.glo "_law_far").ok, (He.Fa.glo "_law_split").ok, (He.Fa.glo "_law_told_split").ok, (He.Fa.glo "_law_whole").ok, (He.Fa.glo "_law_weights").ok, (He.Fa.glo "law").ok, (He.Fa.glo "NothingMade").ok, (He.Fa.free "ZeroDivisionError").ok, (He.Fa.free "abs").ok, (He.Fa.free "bool").ok, (He.Fa.free "int").ok, (He.Fa.free "isinstance").ok, (He.Fa.free "len").ok, (He.Fa.free "list").ok, (He.Fa.free "max").ok, (He.Fa.free "min").ok, (He.Fa.free "range").ok, (He.Fa.free "sorted").ok, (He.Fa.free "sum").ok, (He.Fa.free "tuple").ok, clsB hsC, tabB tsC, codeB "split", isB hsC (.b "bool"), isB hsC (.b "int"), isB hsC (.b "list"), (oex0B "NothingMade" bm_ZeroDivisionError "ZeroDivisionError.__new__"), (fun K => xcB K (He.ga K "NothingMade")), (fun K => decide (PySem.W.kitOne K (.ref (He.ga K "NothingMade")) (.type "ZeroDivisionError") = some true)), (fun K => decide (PySem.W.exmOne K (.ref (He.ga K "NothingMade")) (.ref (He.ga K "NothingMade")) = some true))]
abbrev FN : List He.DefD := [D_split, D__law_pen, D__law_draw, D__law_far, D__law_split, D__law_told_split, D__law_whole, D__law_weights, D_law]
structure Tx (K : PySem.W.Frag) (mg : Str → Option Value) : Prop where
  f_split : ∃ fd, FunD K "split" "split" (defArgs s_split) (defBody s_split) (defScope s_split) [] [] (He.ga K "split") fd
  f__law_pen : ∃ fd, FunD K "_law_pen" "_law_pen" (defArgs s__law_pen) (defBody s__law_pen) (defScope s__law_pen) [] [] (He.ga K "_law_pen") fd
  f__law_draw : ∃ fd, FunD K "_law_draw" "_law_draw" (defArgs s__law_draw) (defBody s__law_draw) (defScope s__law_draw) [] [] (He.ga K "_law_draw") fd
  f__law_far : ∃ fd, FunD K "_law_far" "_law_far" (defArgs s__law_far) (defBody s__law_far) (defScope s__law_far) [] [] (He.ga K "_law_far") fd
  f__law_split : ∃ fd, FunD K "_law_split" "_law_split" (defArgs s__law_split) (defBody s__law_split) (defScope s__law_split) [] [] (He.ga K "_law_split") fd
  f__law_told_split : ∃ fd, FunD K "_law_told_split" "_law_told_split" (defArgs s__law_told_split) (defBody s__law_told_split) (defScope s__law_told_split) [] [] (He.ga K "_law_told_split") fd
  f__law_whole : ∃ fd, FunD K "_law_whole" "_law_whole" (defArgs s__law_whole) (defBody s__law_whole) (defScope s__law_whole) [] [] (He.ga K "_law_whole") fd
  f__law_weights : ∃ fd, FunD K "_law_weights" "_law_weights" (defArgs s__law_weights) (defBody s__law_weights) (defScope s__law_weights) [] [] (He.ga K "_law_weights") fd
  f_law : ∃ fd, FunD K "law" "law" (defArgs s_law) (defBody s_law) (defScope s_law) [] [] (He.ga K "law") fd
  g_split : mg "split" = some (.ref (He.ga K "split"))
  g__law_pen : mg "_law_pen" = some (.ref (He.ga K "_law_pen"))
  g__law_draw : mg "_law_draw" = some (.ref (He.ga K "_law_draw"))
  g__law_far : mg "_law_far" = some (.ref (He.ga K "_law_far"))
  g__law_split : mg "_law_split" = some (.ref (He.ga K "_law_split"))
  g__law_told_split : mg "_law_told_split" = some (.ref (He.ga K "_law_told_split"))
  g__law_whole : mg "_law_whole" = some (.ref (He.ga K "_law_whole"))
  g__law_weights : mg "_law_weights" = some (.ref (He.ga K "_law_weights"))
  g_law : mg "law" = some (.ref (He.ga K "law"))
  g_NothingMade : mg "NothingMade" = some (.ref (He.ga K "NothingMade"))
  n_ZeroDivisionError : mg "ZeroDivisionError" = none
  n_abs : mg "abs" = none
  n_bool : mg "bool" = none
  n_int : mg "int" = none
  n_isinstance : mg "isinstance" = none
  n_len : mg "len" = none
  n_list : mg "list" = none
  n_max : mg "max" = none
  n_min : mg "min" = none
  n_range : mg "range" = none
  n_sorted : mg "sorted" = none
  n_sum : mg "sum" = none
  n_tuple : mg "tuple" = none
  ck : ClsOk K (zx K)
  tb : TabOkK tsC K
  co_split : CodeK K (He.ga K "split") (tabAt K "split").1
  io_bool : IsOk K (zx K) (.b "bool")
  io_int : IsOk K (zx K) (.b "int")
  io_list : IsOk K (zx K) (.b "list")
  oex0_NothingMade : Oex0 K (He.ga K "NothingMade") bm_ZeroDivisionError "ZeroDivisionError.__new__"
  xc_NothingMade : XcC K (He.ga K "NothingMade")
  xk_NothingMade_ZeroDivisionError : PySem.W.kitOne K (.ref (He.ga K "NothingMade")) (.type "ZeroDivisionError") = some true
  xm_NothingMade_NothingMade : PySem.W.exmOne K (.ref (He.ga K "NothingMade")) (.ref (He.ga K "NothingMade")) = some true
theorem tx_of {K : PySem.W.Frag} {mg : Str → Option Value} {h : Heap} (X : K.In h) (G : h.Ns mainGlobals mg) (c : SaysY FA FN K) : Tx K mg where
  f_split := c.def_ 0
  f__law_pen := c.def_ 1
  f__law_draw := c.def_ 2
  f__law_far := c.def_ 3
  f__law_split := c.def_ 4
  f__law_told_split := c.def_ 5
  f__law_whole := c.def_ 6
  f__law_weights := c.def_ 7
  f_law := c.def_ 8
  g_split := He.glo_ok X G (c.fact 0 (f := (He.Fa.glo "split").ok))
  g__law_pen := He.glo_ok X G (c.fact 1 (f := (He.Fa.glo "_law_pen").ok))
  g__law_draw := He.glo_ok X G (c.fact 2 (f := (He.Fa.glo "_law_draw").ok))
  g__law_far := He.glo_ok X G (c.fact 3 (f := (He.Fa.glo "_law_far").ok))
  g__law_split := He.glo_ok X G (c.fact 4 (f := (He.Fa.glo "_law_split").ok))
  g__law_told_split := He.glo_ok X G (c.fact 5 (f := (He.Fa.glo "_law_told_split").ok))
  g__law_whole := He.glo_ok X G (c.fact 6 (f := (He.Fa.glo "_law_whole").ok))
  g__law_weights := He.glo_ok X G (c.fact 7 (f := (He.Fa.glo "_law_weights").ok))
  g_law := He.glo_ok X G (c.fact 8 (f := (He.Fa.glo "law").ok))
  g_NothingMade := He.glo_ok X G (c.fact 9 (f := (He.Fa.glo "NothingMade").ok))
  n_ZeroDivisionError := He.free_ok X G (c.fact 10 (f := (He.Fa.free "ZeroDivisionError").ok))
  n_abs := He.free_ok X G (c.fact 11 (f := (He.Fa.free "abs").ok))
  n_bool := He.free_ok X G (c.fact 12 (f := (He.Fa.free "bool").ok))
  n_int := He.free_ok X G (c.fact 13 (f := (He.Fa.free "int").ok))
  n_isinstance := He.free_ok X G (c.fact 14 (f := (He.Fa.free "isinstance").ok))
  n_len := He.free_ok X G (c.fact 15 (f := (He.Fa.free "len").ok))
  n_list := He.free_ok X G (c.fact 16 (f := (He.Fa.free "list").ok))
  n_max := He.free_ok X G (c.fact 17 (f := (He.Fa.free "max").ok))
  n_min := He.free_ok X G (c.fact 18 (f := (He.Fa.free "min").ok))
  n_range := He.free_ok X G (c.fact 19 (f := (He.Fa.free "range").ok))
  n_sorted := He.free_ok X G (c.fact 20 (f := (He.Fa.free "sorted").ok))
  n_sum := He.free_ok X G (c.fact 21 (f := (He.Fa.free "sum").ok))
  n_tuple := He.free_ok X G (c.fact 22 (f := (He.Fa.free "tuple").ok))
  ck := (clsB_ok (c.fact 23 (f := clsB hsC))).ts
  tb := tabB_ok (c.fact 24 (f := tabB tsC))
  co_split := codeB_ok (c.fact 25 (f := codeB "split"))
  io_bool := (isB_ok (by first | rfl | trivial) (c.fact 26 (f := isB hsC (.b "bool")))).ts
  io_int := (isB_ok (by first | rfl | trivial) (c.fact 27 (f := isB hsC (.b "int")))).ts
  io_list := (isB_ok (by first | rfl | trivial) (c.fact 28 (f := isB hsC (.b "list")))).ts
  oex0_NothingMade := oex0B_ok (c.fact 29 (f := (oex0B "NothingMade" bm_ZeroDivisionError "ZeroDivisionError.__new__")))
  xc_NothingMade := xcB_ok (c.fact 30 (f := (fun K => xcB K (He.ga K "NothingMade"))))
  xk_NothingMade_ZeroDivisionError := of_decide_eq_true (c.fact 31 (f := (fun K => decide (PySem.W.kitOne K (.ref (He.ga K "NothingMade")) (.type "ZeroDivisionError") = some true))))
  xm_NothingMade_NothingMade := of_decide_eq_true (c.fact 32 (f := (fun K => decide (PySem.W.exmOne K (.ref (He.ga K "NothingMade")) (.ref (He.ga K "NothingMade")) = some true))))
section
variable {K : PySem.W.Frag} {mg : Str → Option Value}
theorem ow_ok (P : Program) (w : World) (base : Heap) (T : Tx K mg) : EqOwn P w K mg base (L2.CX P w) (zx K) 0 := by
  exact eqOwn0 T.ck (fun c hc => by match c, hc with | 0, _ => rfl | 1, _ => rfl | 2, _ => rfl | 3, _ => rfl)
theorem ok_split (P : Program) (w : World) (base : Heap) (T : Tx K mg) (hTB : ∀ p ∈ csT tsC K, LamX.TabB base mg p.1 p.2) : ∃ fd, FunD K "split" "split" (defArgs s_split) (defBody s_split) (defScope s_split) [] [] (He.ga K "split") fd ∧ FnOk P w K mg base (L2.CX P w) 9 (He.ga K "split") fd ["pence", "weights"] (spOf K (zx K) c_split) := by
  obtain ⟨fd, F⟩ := T.f_split
  have ow := ow_ok P w base T
  refine ⟨fd, F, fn_okC F T.co_split sc_split m_split rfl (fun A outer s H E hr => ?_)⟩
  have hu := hu_of hr
  have hu64 := hr.units
  have tk : Takes (cxOf (L2.CX P w) P w K mg base N_split "split" (defScope s_split) (He.ga K "split") (.ref (tabAt K "split").1) A outer s H E) (fun cls d _ H => E cls d H) := takes_of rfl rfl rfl rfl
  have hx : PassesS (L2.CX P w) (cxOf (L2.CX P w) P w K mg base N_split "split" (defScope s_split) (He.ga K "split") (.ref (tabAt K "split").1) A outer s H E) (fun cls d _ H => E cls d H) := fun σ => passAt tk σ
  exact (zs_cons (z_set (i := 6) sc_split.nd rfl (Or.inr rfl) (pd_callB (cr_sumT rfl) cd_sumT rfl T.n_sum (by decide +kernel) (pad_cons (pd_var 1) pad_nil)))
  (zs_cons (z_if (ptd_eqX ow passL (hr.mono (by decide)) (pd_var 6) pd_int)
  (zs_cons (z_if (ptd_gt (pd_var 0) pd_int)
  (zs_one (z_raise0 eb_ZeroDivisionError T.oex0_NothingMade.q T.oex0_NothingMade.k T.oex0_NothingMade.s T.oex0_NothingMade.t rfl rfl T.g_NothingMade rfl tk))
  zs_nil)
  (zs_one (z_retO (pl_rep (pd_fz (pl_lst (pad_cons pd_int pad_nil))) (pd_callB call_len cd_len rfl T.n_len (by decide +kernel) (pad_cons (pd_var 1) pad_nil))))))
  zs_nil)
  (zs_cons (z_setLcO (i := 2) (own := [("weight", 7)]) (ct := .one 7) rfl sc_split.nd rfl rfl (sw_true rfl rfl rfl (by decide +kernel)) (pid_sq (pd_var 1)) (blkOk_by (own := [("weight", 7)]) (N := N_split) (sc := defScope s_split) (by decide +kernel)) rfl (fun _ _ _ _ _ => pg_name (i := 7) sc_split.nd rfl (Or.inl rfl)) (fun _ _ _ _ _ => ptsd_nil) (fun _ _ _ _ _ => (pd_div (pd_times (pd_var 0) (pd_var 7)) (pd_var 6))))
  (zs_cons (z_set (i := 3) sc_split.nd rfl (Or.inl rfl) (pd_min (pd_var 0) (pd_callB (cr_sum rfl) cd_sum rfl T.n_sum (by decide +kernel) (pad_cons (pd_var 2) pad_nil))))
  (zs_cons (z_set (i := 4) sc_split.nd rfl (Or.inl rfl) (pd_fz (pl_sortKR (k := 0) (y := "at") rfl T.n_sorted rfl T.n_range rfl (pd_callB call_len cd_len rfl T.n_len (by decide +kernel) (pad_cons (pd_var 1) pad_nil)) (cs_in hTB (.head _)) rfl (hr.mono (by decide)) (QL.lamP_by (sc := defScope s_split) (by decide +kernel)) rfl (fun _ _ _ _ _ _ => rfl) (tab_in (.head _)) (fun A outer s H f c' hr => by have hu := hu_of hr; have hu64 := hr.units; exact (pd_tup (pad_cons (pd_min pd_int (pd_mod (pd_times (pd_var 0) (pd_subs hu (pd_var 1) (pd_var 8) (fun _ _ => rfl))) (pd_var 6))) (pad_cons (pd_var 8) pad_nil)))) (hv := by decide +kernel))))
  (zs_cons (z_for (passes_of rfl) rfl (pid_sq (pd_fz (pl_cut (pd_var 4) pod_none (pod_some (pd_var 3))))) (pgd_name (i := 5) sc_split.nd rfl (Or.inl rfl))
  (zs_one (z_augS hu ip_add (pd_var 2) (pd_var 5) pd_int)))
  (zs_one (z_ret (pd_var 2)))))))))
theorem ok__law_pen (P : Program) (w : World) (base : Heap) (T : Tx K mg) : ∃ fd, FunD K "_law_pen" "_law_pen" (defArgs s__law_pen) (defBody s__law_pen) (defScope s__law_pen) [] [] (He.ga K "_law_pen") fd ∧ FnOk P w K mg base (L2.CX P w) 1 (He.ga K "_law_pen") fd ["script"] (spOf K (zx K) c__law_pen) := by
  obtain ⟨fd, F⟩ := T.f__law_pen
  refine ⟨fd, F, fn_okD F sc__law_pen m__law_pen rfl (fun cdv A outer s H E hr => ?_)⟩
  have hu := hu_of hr
  have hu64 := hr.units
  have tk : Takes (cxOf (L2.CX P w) P w K mg base N__law_pen "_law_pen" (defScope s__law_pen) (He.ga K "_law_pen") cdv A outer s H E) (fun cls d _ H => E cls d H) := takes_of rfl rfl rfl rfl
  have hx : PassesS (L2.CX P w) (cxOf (L2.CX P w) P w K mg base N__law_pen "_law_pen" (defScope s__law_pen) (He.ga K "_law_pen") cdv A outer s H E) (fun cls d _ H => E cls d H) := fun σ => passAt tk σ
  exact (zs_one (z_retD (pdc_disp (pps_cons pd_str (pd_fz (pl_comp (own := [("cell", 1)]) (ct := .one 1) rfl sc__law_pen.nd (pid_sq (pd_fz (pl_cut (pd_var 0) pod_none (pod_some pd_int)))) (blkOk_by (own := [("cell", 1)]) (N := N__law_pen) (sc := defScope s__law_pen) (by decide +kernel)) rfl (fun _ _ _ _ _ => pg_name (i := 1) sc__law_pen.nd rfl (Or.inl rfl)) (fun _ _ _ _ _ => ptsd_nil) (fun _ _ _ _ _ => (pd_var 1)))) (pps_cons pd_str pd_int (pps_cons pd_str pd_int pps_nil))))))
theorem ok__law_draw (P : Program) (w : World) (base : Heap) (T : Tx K mg) : ∃ fd, FunD K "_law_draw" "_law_draw" (defArgs s__law_draw) (defBody s__law_draw) (defScope s__law_draw) [] [] (He.ga K "_law_draw") fd ∧ FnOk P w K mg base (L2.CX P w) 9 (He.ga K "_law_draw") fd ["pen", "many"] (spOf K (zx K) c__law_draw) := by
  obtain ⟨fd, F⟩ := T.f__law_draw
  have ow := ow_ok P w base T
  refine ⟨fd, F, fn_okD F sc__law_draw m__law_draw rfl (fun cdv A outer s H E hr => ?_)⟩
  have hu := hu_of hr
  have hu64 := hr.units
  have tk : Takes (cxOf (L2.CX P w) P w K mg base N__law_draw "_law_draw" (defScope s__law_draw) (He.ga K "_law_draw") cdv A outer s H E) (fun cls d _ H => E cls d H) := takes_of rfl rfl rfl rfl
  have hx : PassesS (L2.CX P w) (cxOf (L2.CX P w) P w K mg base N__law_draw "_law_draw" (defScope s__law_draw) (He.ga K "_law_draw") cdv A outer s H E) (fun cls d _ H => E cls d H) := fun σ => passAt tk σ
  exact (zs_cons (z_if (ptd_gt (pd_subs hu (pd_var 0) pd_str (fun _ _ => rfl)) pd_int)
  (zs_cons (z_set (i := 2) sc__law_draw.nd rfl (Or.inl rfl) (pd_mod (pd_subs hu (pd_var 0) pd_str (fun _ _ => rfl)) (pd_var 1)))
  (zs_cons (z_dput hu (pd_var 0) pd_str (pd_div (pd_subs hu (pd_var 0) pd_str (fun _ _ => rfl)) (pd_var 1)))
  (zs_one (z_ret (pd_var 2)))))
  zs_nil)
  (zs_cons (z_set (i := 3) sc__law_draw.nd rfl (Or.inl rfl) (pd_subs hu (pd_var 0) pd_str (fun _ _ => rfl)))
  (zs_cons (z_dput hu (pd_var 0) pd_str (pd_plus (pd_var 3) pd_int))
  (zs_cons (z_set (i := 4) sc__law_draw.nd rfl (Or.inl rfl) (pd_plus (pd_times (pd_var 3) (pd_var 3)) pd_int))
  (zs_cons (z_if (ptd_neX ow passL (hr.mono (by decide)) (pd_subs hu (pd_var 0) pd_str (fun _ _ => rfl)) (pd_fz (pl_lst pad_nil)))
  (zs_one (z_set (i := 4) sc__law_draw.nd rfl (Or.inl rfl) (pd_subs hu (pd_subs hu (pd_var 0) pd_str (fun _ _ => rfl)) (pd_mod (pd_var 3) (pd_callB call_len cd_len rfl T.n_len (by decide +kernel) (pad_cons (pd_subs hu (pd_var 0) pd_str (fun _ _ => rfl)) pad_nil))) (fun _ _ => rfl))))
  zs_nil)
  (zs_cons (z_if (PWD.pt (pwd_and (ptd_lt (pd_var 3) (pd_callB call_len cd_len rfl T.n_len (by decide +kernel) (pad_cons (pd_subs hu (pd_var 0) pd_str (fun _ _ => rfl)) pad_nil))) (pwd_and1 (ptd_ge (pd_callB call_abs cd_abs rfl T.n_abs (by decide +kernel) (pad_cons (pd_var 4) pad_nil)) (pd_pow pd_int pd_int)))))
  (zs_cons (z_dput hu (pd_var 0) pd_str (pd_div (pd_callB call_abs cd_abs rfl T.n_abs (by decide +kernel) (pad_cons (pd_var 4) pad_nil)) (pd_var 1)))
  (zs_one (z_ret (pd_mod (pd_callB call_abs cd_abs rfl T.n_abs (by decide +kernel) (pad_cons (pd_var 4) pad_nil)) (pd_var 1)))))
  zs_nil)
  (zs_cons (z_set (i := 5) sc__law_draw.nd rfl (Or.inl rfl) (pd_mod (pd_times (pd_plus (pd_plus (pd_mod (pd_var 4) pd_int) (pd_times pd_int (pd_var 3))) pd_int) pd_int) pd_int))
  (zs_cons (z_for (passes_of rfl) rfl (pid_range1 rfl T.n_range (pad_cons pd_int pad_nil)) (pgd_name (i := 6) sc__law_draw.nd rfl (Or.inl rfl))
  (zs_cons (z_set (i := 5) sc__law_draw.nd rfl (Or.inl rfl) (pd_plus (pd_plus (pd_plus (pd_times (pd_var 5) (pd_var 5)) (pd_times pd_int (pd_var 5))) (pd_var 3)) (pd_var 6)))
  (zs_one (z_set (i := 5) sc__law_draw.nd rfl (Or.inl rfl) (pd_mod (pd_var 5) pd_int)))))
  (zs_one (z_ret (pd_mod (pd_div (pd_var 5) pd_int) (pd_var 1))))))))))))
theorem ok__law_far (P : Program) (w : World) (base : Heap) (T : Tx K mg) : ∃ fd, FunD K "_law_far" "_law_far" (defArgs s__law_far) (defBody s__law_far) (defScope s__law_far) [] [] (He.ga K "_law_far") fd ∧ FnOk P w K mg base (L2.CX P w) 10 (He.ga K "_law_far") fd ["pen"] (spOf K (zx K) c__law_far) := by
  obtain ⟨fd, F⟩ := T.f__law_far
  obtain ⟨fd__law_draw, F__law_draw, O__law_draw⟩ := ok__law_draw P w base T
  obtain ⟨_, hb0⟩ := bind0 (ps := ["pen", "many"]) F__law_draw 2 [] ([.u 0, .u 1] : List Src) (fun _ _ _ _ _ _ us ws h1 h2 => match us, ws, h1, h2 with | [_, _], [], _, _ => rfl)
  refine ⟨fd, F, fn_okD F sc__law_far m__law_far rfl (fun cdv A outer s H E hr => ?_)⟩
  have hu := hu_of hr
  have hu64 := hr.units
  have tk : Takes (cxOf (L2.CX P w) P w K mg base N__law_far "_law_far" (defScope s__law_far) (He.ga K "_law_far") cdv A outer s H E) (fun cls d _ H => E cls d H) := takes_of rfl rfl rfl rfl
  have hx : PassesS (L2.CX P w) (cxOf (L2.CX P w) P w K mg base N__law_far "_law_far" (defScope s__law_far) (He.ga K "_law_far") cdv A outer s H E) (fun cls d _ H => E cls d H) := fun σ => passAt tk σ
  exact (zs_one (z_ret (pd_plus (pd_plus (pd_times (pd_of (pv_callU O__law_draw (hr.mono (by decide)) rfl T.g__law_draw F__law_draw.kp hb0 (fun _ => .nil) hx (pad_cons (pd_var 0) (pad_cons pd_int pad_nil)) pkd_nil)) (pd_pow pd_int pd_int)) (pd_times (pd_of (pv_callU O__law_draw (hr.mono (by decide)) rfl T.g__law_draw F__law_draw.kp hb0 (fun _ => .nil) hx (pad_cons (pd_var 0) (pad_cons (pd_pow pd_int pd_int) pad_nil)) pkd_nil)) (pd_pow pd_int pd_int))) (pd_of (pv_callU O__law_draw (hr.mono (by decide)) rfl T.g__law_draw F__law_draw.kp hb0 (fun _ => .nil) hx (pad_cons (pd_var 0) (pad_cons (pd_pow pd_int pd_int) pad_nil)) pkd_nil)))))
theorem ok__law_split (P : Program) (w : World) (base : Heap) (T : Tx K mg) : ∃ fd, FunD K "_law_split" "_law_split" (defArgs s__law_split) (defBody s__law_split) (defScope s__law_split) [] [] (He.ga K "_law_split") fd ∧ FnOk P w K mg base (L2.CX P w) 9 (He.ga K "_law_split") fd ["a_pence", "a_weights"] (spOf K (zx K) c__law_split) := by
  obtain ⟨fd, F⟩ := T.f__law_split
  have ow := ow_ok P w base T
  refine ⟨fd, F, fn_okD F sc__law_split m__law_split rfl (fun cdv A outer s H E hr => ?_)⟩
  have hu := hu_of hr
  have hu64 := hr.units
  have tk : Takes (cxOf (L2.CX P w) P w K mg base N__law_split "_law_split" (defScope s__law_split) (He.ga K "_law_split") cdv A outer s H E) (fun cls d _ H => E cls d H) := takes_of rfl rfl rfl rfl
  have hx : PassesS (L2.CX P w) (cxOf (L2.CX P w) P w K mg base N__law_split "_law_split" (defScope s__law_split) (He.ga K "_law_split") cdv A outer s H E) (fun cls d _ H => E cls d H) := fun σ => passAt tk σ
  exact (zs_cons (z_set (i := 2) sc__law_split.nd rfl (Or.inr rfl) (pd_callB (cr_sum rfl) cd_sum rfl T.n_sum (by decide +kernel) (pad_cons (pd_var 1) pad_nil)))
  (zs_cons (z_if (ptd_eqX ow passL (hr.mono (by decide)) (pd_var 2) pd_int)
  (zs_one (z_ret (pd_if (ptd_eqX ow passL (hr.mono (by decide)) (pd_var 0) pd_int) (pd_fz (pl_comp (own := [("weight", 7)]) (ct := .one 7) rfl sc__law_split.nd (pid_sq (pd_var 1)) (blkOk_by (own := [("weight", 7)]) (N := N__law_split) (sc := defScope s__law_split) (by decide +kernel)) rfl (fun _ _ _ _ _ => pg_name (i := 7) sc__law_split.nd rfl (Or.inl rfl)) (fun _ _ _ _ _ => ptsd_nil) (fun _ _ _ _ _ => pd_int))) pd_non)))
  zs_nil)
  (zs_cons (z_setLcO (i := 3) (own := [("weight", 7)]) (ct := .one 7) rfl sc__law_split.nd rfl rfl (sw_true rfl rfl rfl (by decide +kernel)) (pid_sq (pd_var 1)) (blkOk_by (own := [("weight", 7)]) (N := N__law_split) (sc := defScope s__law_split) (by decide +kernel)) rfl (fun _ _ _ _ _ => pg_name (i := 7) sc__law_split.nd rfl (Or.inl rfl)) (fun _ _ _ _ _ => ptsd_nil) (fun _ _ _ _ _ => (pd_div (pd_times (pd_var 0) (pd_var 7)) (pd_var 2))))
  (zs_cons (z_setLcO (i := 4) (own := [("weight", 7)]) (ct := .one 7) rfl sc__law_split.nd rfl rfl (sw_true rfl rfl rfl (by decide +kernel)) (pid_sq (pd_var 1)) (blkOk_by (own := [("weight", 7)]) (N := N__law_split) (sc := defScope s__law_split) (by decide +kernel)) rfl (fun _ _ _ _ _ => pg_name (i := 7) sc__law_split.nd rfl (Or.inl rfl)) (fun _ _ _ _ _ => ptsd_nil) (fun _ _ _ _ _ => (pd_mod (pd_times (pd_var 0) (pd_var 7)) (pd_var 2))))
  (zs_cons (z_for (passes_of rfl) rfl (pid_range1 rfl T.n_range (pad_cons (pd_min (pd_var 0) (pd_callB (cr_sum rfl) cd_sum rfl T.n_sum (by decide +kernel) (pad_cons (pd_var 3) pad_nil))) pad_nil)) (pgd_name (i := 5) sc__law_split.nd rfl (Or.inl rfl))
  (zs_cons (z_set (i := 6) sc__law_split.nd rfl (Or.inl rfl) (pd_mt (Or.inl rfl) PySem.F.plainAttrs_list PySem.F.slot_list_index PySem.F.type_list_index (mt_indexD (lt65 hr)) md_index (pd_var 4) (pad_cons (pd_callB (cr_max rfl) cd_max1 rfl T.n_max (by decide +kernel) (pad_cons (pd_var 4) pad_nil)) pad_nil)))
  (zs_cons (z_asgG (pd_plus (pd_subs hu (pd_var 3) (pd_var 6) (fun _ _ => rfl)) pd_int) (pgd_sub hu (pd_var 3) (pd_var 6) (fun _ => rfl)))
  (zs_one (z_asgG (pd_neg pd_int) (pgd_sub hu (pd_var 4) (pd_var 6) (fun _ => rfl)))))))
  (zs_one (z_retF (pd_var 3))))))))
theorem ok__law_told_split (P : Program) (w : World) (base : Heap) (T : Tx K mg) (hTB : ∀ p ∈ csT tsC K, LamX.TabB base mg p.1 p.2) : ∃ fd, FunD K "_law_told_split" "_law_told_split" (defArgs s__law_told_split) (defBody s__law_told_split) (defScope s__law_told_split) [] [] (He.ga K "_law_told_split") fd ∧ FnOk P w K mg base (L2.CX P w) 10 (He.ga K "_law_told_split") fd ["a_pence", "a_weights"] (spOf K (zx K) c__law_told_split) := by
  obtain ⟨fd, F⟩ := T.f__law_told_split
  obtain ⟨fd_split, F_split, O_split⟩ := ok_split P w base T hTB
  obtain ⟨_, hb0⟩ := bind0 (ps := ["pence", "weights"]) F_split 2 [] ([.u 0, .u 1] : List Src) (fun _ _ _ _ _ _ us ws h1 h2 => match us, ws, h1, h2 with | [_, _], [], _, _ => rfl)
  have ow := ow_ok P w base T
  refine ⟨fd, F, fn_okD F sc__law_told_split m__law_told_split rfl (fun cdv A outer s H E hr => ?_)⟩
  have hu := hu_of hr
  have hu64 := hr.units
  have tk : Takes (cxOf (L2.CX P w) P w K mg base N__law_told_split "_law_told_split" (defScope s__law_told_split) (He.ga K "_law_told_split") cdv A outer s H E) (fun cls d _ H => E cls d H) := takes_of rfl rfl rfl rfl
  have hx : PassesS (L2.CX P w) (cxOf (L2.CX P w) P w K mg base N__law_told_split "_law_told_split" (defScope s__law_told_split) (He.ga K "_law_told_split") cdv A outer s H E) (fun cls d _ H => E cls d H) := fun σ => passAt tk σ
  exact (zs_cons (z_set (i := 2) sc__law_told_split.nd rfl (Or.inl rfl) pd_non)
  (zs_cons (z_set (i := 3) sc__law_told_split.nd rfl (Or.inl rfl) pd_bl)
  (zs_cons (z_try rfl rfl sc__law_told_split.nd rfl tk (fun W pn xe tk pw => (zs_one (z_setW (i := 2) sc__law_told_split.nd rfl (Or.inl rfl) (pv_callU O_split (hr.mono (by decide)) rfl T.g_split F_split.kp hb0 (fun _ => .nil) (fun σ => passAt tk σ) (pad_cons (pd_var 0) (pad_cons (pd_var 1) pad_nil)) pkd_nil)))) (.as (i := 4) (p := tblC [(27, true)]) (cl_one ⟨rfl, by decide, .inl T.g_NothingMade⟩) (tb_cons (c := 27) (b := true) (P := fun c b => PySem.W.exmOne K (.ref ((zx K).cls c)) (.ref (He.ga K "NothingMade")) = some b) T.xm_NothingMade_NothingMade tb_nil) rfl rfl (fun a pn => (zs_one (z_set (i := 3) sc__law_told_split.nd rfl (Or.inl rfl) (pd_isX (C := (.b "ZeroDivisionError")) (tb := [(27, true)]) (tb_cons (c := 27) (b := true) (P := fun c b => XcC K ((zx K).cls c) ∧ PySem.W.kitOne K (.ref ((zx K).cls c)) (Ty0.v (zx K) (.b "ZeroDivisionError")) = some b) ⟨T.xc_NothingMade, T.xk_NothingMade_ZeroDivisionError⟩ tb_nil) rfl T.n_isinstance (pd_var 4) (pe_bltn rfl T.n_ZeroDivisionError (by decide +kernel) rfl))))) .nil) zs_nil)
  (zs_cons (z_if (ptd_tru (pd_var 3))
  (zs_one (z_ret pd_non))
  zs_nil)
  (zs_one (z_retW (pv_if (ptd_tru (pd_isi ow.cls T.io_list rfl T.n_isinstance (pd_var 2) (pe_bltn rfl T.n_list (by decide +kernel) rfl))) (pv_mv (pd_var 2)) (pv_L (pl_lst (pad_cons (pd_neg pd_int) pad_nil))))))))))
theorem ok__law_whole (P : Program) (w : World) (base : Heap) (T : Tx K mg) : ∃ fd, FunD K "_law_whole" "_law_whole" (defArgs s__law_whole) (defBody s__law_whole) (defScope s__law_whole) [] [] (He.ga K "_law_whole") fd ∧ FnOk P w K mg base (L2.CX P w) 9 (He.ga K "_law_whole") fd ["thing"] (spOf K (zx K) c__law_whole) := by
  obtain ⟨fd, F⟩ := T.f__law_whole
  have ow := ow_ok P w base T
  refine ⟨fd, F, fn_okD F sc__law_whole m__law_whole rfl (fun cdv A outer s H E hr => ?_)⟩
  have hu := hu_of hr
  have hu64 := hr.units
  have tk : Takes (cxOf (L2.CX P w) P w K mg base N__law_whole "_law_whole" (defScope s__law_whole) (He.ga K "_law_whole") cdv A outer s H E) (fun cls d _ H => E cls d H) := takes_of rfl rfl rfl rfl
  have hx : PassesS (L2.CX P w) (cxOf (L2.CX P w) P w K mg base N__law_whole "_law_whole" (defScope s__law_whole) (He.ga K "_law_whole") cdv A outer s H E) (fun cls d _ H => E cls d H) := fun σ => passAt tk σ
  exact (zs_one (z_ret (pd_and (pd_isi ow.cls T.io_int rfl T.n_isinstance (pd_var 0) (pe_bltn rfl T.n_int (by decide +kernel) rfl)) (pd_one (pd_not (pd_isi ow.cls T.io_bool rfl T.n_isinstance (pd_var 0) (pe_bltn rfl T.n_bool (by decide +kernel) rfl)))))))
theorem ok__law_weights (P : Program) (w : World) (base : Heap) (T : Tx K mg) : ∃ fd, FunD K "_law_weights" "_law_weights" (defArgs s__law_weights) (defBody s__law_weights) (defScope s__law_weights) [] [] (He.ga K "_law_weights") fd ∧ FnOk P w K mg base (L2.CX P w) 11 (He.ga K "_law_weights") fd ["pen"] (spOf K (zx K) c__law_weights) := by
  obtain ⟨fd, F⟩ := T.f__law_weights
  obtain ⟨fd__law_draw, F__law_draw, O__law_draw⟩ := ok__law_draw P w base T
  obtain ⟨fd__law_far, F__law_far, O__law_far⟩ := ok__law_far P w base T
  obtain ⟨_, hb0⟩ := bind0 (ps := ["pen", "many"]) F__law_draw 2 [] ([.u 0, .u 1] : List Src) (fun _ _ _ _ _ _ us ws h1 h2 => match us, ws, h1, h2 with | [_, _], [], _, _ => rfl)
  obtain ⟨_, hb1⟩ := bind0 (ps := ["pen"]) F__law_far 1 [] ([.u 0] : List Src) (fun _ _ _ _ _ _ us ws h1 h2 => match us, ws, h1, h2 with | [_], [], _, _ => rfl)
  have ow := ow_ok P w base T
  refine ⟨fd, F, fn_okD F sc__law_weights m__law_weights rfl (fun cdv A outer s H E hr => ?_)⟩
  have hu := hu_of hr
  have hu64 := hr.units
  have tk : Takes (cxOf (L2.CX P w) P w K mg base N__law_weights "_law_weights" (defScope s__law_weights) (He.ga K "_law_weights") cdv A outer s H E) (fun cls d _ H => E cls d H) := takes_of rfl rfl rfl rfl
  have hx : PassesS (L2.CX P w) (cxOf (L2.CX P w) P w K mg base N__law_weights "_law_weights" (defScope s__law_weights) (He.ga K "_law_weights") cdv A outer s H E) (fun cls d _ H => E cls d H) := fun σ => passAt tk σ
  exact (zs_cons (z_set (i := 1) sc__law_weights.nd rfl (Or.inl rfl) (pd_of (pv_callU O__law_draw (hr.mono (by decide)) rfl T.g__law_draw F__law_draw.kp hb0 (fun _ => .nil) hx (pad_cons (pd_var 0) (pad_cons pd_int pad_nil)) pkd_nil)))
  (zs_cons (z_set (i := 2) sc__law_weights.nd rfl (Or.inl rfl) (pd_of (pv_callU O__law_draw (hr.mono (by decide)) rfl T.g__law_draw F__law_draw.kp hb0 (fun _ => .nil) hx (pad_cons (pd_var 0) (pad_cons pd_int pad_nil)) pkd_nil)))
  (zs_cons (z_set (i := 3) sc__law_weights.nd rfl (Or.inr rfl) (pd_subs hu (pd_fz (pl_lst (pad_cons pd_int (pad_cons pd_int (pad_cons pd_int pad_nil))))) (pd_of (pv_callU O__law_draw (hr.mono (by decide)) rfl T.g__law_draw F__law_draw.kp hb0 (fun _ => .nil) hx (pad_cons (pd_var 0) (pad_cons pd_int pad_nil)) pkd_nil)) (fun _ _ => rfl)))
  (zs_cons (z_if (ptd_eqX ow passL (hr.mono (by decide)) (pd_var 1) pd_int)
  (zs_one (z_ret (pd_times (pd_fz (pl_lst (pad_cons (pd_of (pv_callU O__law_draw (hr.mono (by decide)) rfl T.g__law_draw F__law_draw.kp hb0 (fun _ => .nil) hx (pad_cons (pd_var 0) (pad_cons (pd_var 3) pad_nil)) pkd_nil)) pad_nil))) (pd_var 2))))
  zs_nil)
  (zs_cons (z_if (ptd_eqX ow passL (hr.mono (by decide)) (pd_var 1) pd_int)
  (zs_one (z_ret (pd_times (pd_fz (pl_lst (pad_cons pd_int pad_nil))) (pd_var 2))))
  zs_nil)
  (zs_cons (z_if (ptd_eqX ow passL (hr.mono (by decide)) (pd_var 1) pd_int)
  (zs_one (z_ret (pd_fz (pl_comp (own := [("k", 4)]) (ct := .one 4) rfl sc__law_weights.nd (pid_range1 rfl T.n_range (pad_cons (pd_var 2) pad_nil)) (blkOk_by (own := [("k", 4)]) (N := N__law_weights) (sc := defScope s__law_weights) (by decide +kernel)) rfl (fun _ _ _ _ _ => pg_name (i := 4) sc__law_weights.nd rfl (Or.inl rfl)) (fun _ _ _ _ _ => ptsd_nil) (fun _ _ _ _ _ => (pd_of (pv_callU O__law_far (hr.mono (by decide)) rfl T.g__law_far F__law_far.kp hb1 (fun _ => .nil) passLS (pad_cons (pd_var 0) pad_nil) pkd_nil)))))))
  zs_nil)
  (zs_one (z_ret (pd_fz (pl_comp (own := [("k", 4)]) (ct := .one 4) rfl sc__law_weights.nd (pid_range1 rfl T.n_range (pad_cons (pd_var 2) pad_nil)) (blkOk_by (own := [("k", 4)]) (N := N__law_weights) (sc := defScope s__law_weights) (by decide +kernel)) rfl (fun _ _ _ _ _ => pg_name (i := 4) sc__law_weights.nd rfl (Or.inl rfl)) (fun _ _ _ _ _ => ptsd_nil) (fun _ _ _ _ _ => (pd_of (pv_callU O__law_draw (hr.mono (by decide)) rfl T.g__law_draw F__law_draw.kp hb0 (fun _ => .nil) passLS (pad_cons (pd_var 0) (pad_cons (pd_var 3) pad_nil)) pkd_nil)))))))))))))
theorem ok_law (P : Program) (w : World) (base : Heap) (T : Tx K mg) (hTB : ∀ p ∈ csT tsC K, LamX.TabB base mg p.1 p.2) : ∃ fd, FunD K "law" "law" (defArgs s_law) (defBody s_law) (defScope s_law) [] [] (He.ga K "law") fd ∧ FnOk P w K mg base (L2.CX P w) 12 (He.ga K "law") fd ["script"] (spOf K (zx K) c_law) := by
  obtain ⟨fd, F⟩ := T.f_law
  obtain ⟨fd__law_pen, F__law_pen, O__law_pen⟩ := ok__law_pen P w base T
  obtain ⟨fd__law_far, F__law_far, O__law_far⟩ := ok__law_far P w base T
  obtain ⟨fd__law_draw, F__law_draw, O__law_draw⟩ := ok__law_draw P w base T
  obtain ⟨fd__law_weights, F__law_weights, O__law_weights⟩ := ok__law_weights P w base T
  obtain ⟨fd__law_split, F__law_split, O__law_split⟩ := ok__law_split P w base T
  obtain ⟨fd__law_told_split, F__law_told_split, O__law_told_split⟩ := ok__law_told_split P w base T hTB
  obtain ⟨fd__law_whole, F__law_whole, O__law_whole⟩ := ok__law_whole P w base T
  obtain ⟨fd_split, F_split, O_split⟩ := ok_split P w base T hTB
  obtain ⟨_, hb0⟩ := bind0 (ps := ["script"]) F__law_pen 1 [] ([.u 0] : List Src) (fun _ _ _ _ _ _ us ws h1 h2 => match us, ws, h1, h2 with | [_], [], _, _ => rfl)
  obtain ⟨_, hb1⟩ := bind0 (ps := ["pen"]) F__law_far 1 [] ([.u 0] : List Src) (fun _ _ _ _ _ _ us ws h1 h2 => match us, ws, h1, h2 with | [_], [], _, _ => rfl)
  obtain ⟨_, hb2⟩ := bind0 (ps := ["pen", "many"]) F__law_draw 2 [] ([.u 0, .u 1] : List Src) (fun _ _ _ _ _ _ us ws h1 h2 => match us, ws, h1, h2 with | [_, _], [], _, _ => rfl)
  obtain ⟨_, hb3⟩ := bind0 (ps := ["pen"]) F__law_weights 1 [] ([.u 0] : List Src) (fun _ _ _ _ _ _ us ws h1 h2 => match us, ws, h1, h2 with | [_], [], _, _ => rfl)
  obtain ⟨_, hb4⟩ := bind0 (ps := ["a_pence", "a_weights"]) F__law_split 2 [] ([.u 0, .u 1] : List Src) (fun _ _ _ _ _ _ us ws h1 h2 => match us, ws, h1, h2 with | [_, _], [], _, _ => rfl)
  obtain ⟨_, hb5⟩ := bind0 (ps := ["a_pence", "a_weights"]) F__law_told_split 2 [] ([.u 0, .u 1] : List Src) (fun _ _ _ _ _ _ us ws h1 h2 => match us, ws, h1, h2 with | [_, _], [], _, _ => rfl)
  obtain ⟨_, hb6⟩ := bind0 (ps := ["thing"]) F__law_whole 1 [] ([.u 0] : List Src) (fun _ _ _ _ _ _ us ws h1 h2 => match us, ws, h1, h2 with | [_], [], _, _ => rfl)
  obtain ⟨_, hb7⟩ := bind0 (ps := ["pence", "weights"]) F_split 2 [] ([.u 0, .u 1] : List Src) (fun _ _ _ _ _ _ us ws h1 h2 => match us, ws, h1, h2 with | [_, _], [], _, _ => rfl)
  obtain ⟨_, hb8⟩ := bind0 (ps := ["pence", "weights"]) F_split 0 ["pence", "weights"] ([.k 0, .k 1] : List Src) (fun _ _ _ _ _ _ us ws h1 h2 => match us, ws, h1, h2 with | [], [_, _], _, _ => rfl)
  have ow := ow_ok P w base T
  refine ⟨fd, F, fn_okD F sc_law m_law rfl (fun cdv A outer s H E hr => ?_)⟩
  have hu := hu_of hr
  have hu64 := hr.units
  have tk : Takes (cxOf (L2.CX P w) P w K mg base N_law "law" (defScope s_law) (He.ga K "law") cdv A outer s H E) (fun cls d _ H => E cls d H) := takes_of rfl rfl rfl rfl
  have hx : PassesS (L2.CX P w) (cxOf (L2.CX P w) P w K mg base N_law "law" (defScope s_law) (He.ga K "law") cdv A outer s H E) (fun cls d _ H => E cls d H) := fun σ => passAt tk σ
  unfold d_law d_law_10 d_law_9 d_law_8 d_law_7 d_law_6 d_law_5 d_law_4 d_law_3 d_law_2 d_law_1
  exact (zs_cons (z_setW (i := 1) sc_law.nd rfl (Or.inl rfl) (pv_callU O__law_pen (hr.mono (by decide)) rfl T.g__law_pen F__law_pen.kp hb0 (fun _ => .nil) hx (pad_cons (pd_var 0) pad_nil) pkd_nil))
  (zs_cons (z_for (passes_of rfl) rfl (pid_range1 rfl T.n_range (pad_cons (pd_plus pd_int (pd_callB (call_min2 rfl) cd_min2 rfl T.n_min (by decide +kernel) (pad_cons pd_int (pad_cons (pd_callB call_len cd_len rfl T.n_len (by decide +kernel) (pad_cons (pd_var 0) pad_nil)) pad_nil)))) pad_nil)) (pgd_name (i := 2) sc_law.nd rfl (Or.inl rfl))
  (zs_cons (z_set (i := 3) sc_law.nd rfl (Or.inl rfl) (pd_subs hu (pd_fz (pl_lst (pad_cons (pd_of (pv_callU O__law_draw (hr.mono (by decide)) rfl T.g__law_draw F__law_draw.kp hb2 (fun _ => .nil) hx (pad_cons (pd_var 1) (pad_cons pd_int pad_nil)) pkd_nil)) (pad_cons (pd_of (pv_callU O__law_draw (hr.mono (by decide)) rfl T.g__law_draw F__law_draw.kp hb2 (fun _ => .nil) hx (pad_cons (pd_var 1) (pad_cons pd_int pad_nil)) pkd_nil)) (pad_cons (pd_of (pv_callU O__law_far (hr.mono (by decide)) rfl T.g__law_far F__law_far.kp hb1 (fun _ => .nil) hx (pad_cons (pd_var 1) pad_nil) pkd_nil)) (pad_cons pd_int pad_nil)))))) (pd_of (pv_callU O__law_draw (hr.mono (by decide)) rfl T.g__law_draw F__law_draw.kp hb2 (fun _ => .nil) hx (pad_cons (pd_var 1) (pad_cons pd_int pad_nil)) pkd_nil)) (fun _ _ => rfl)))
  (zs_cons (z_set (i := 4) sc_law.nd rfl (Or.inl rfl) (pd_of (pv_callU O__law_weights (hr.mono (by decide)) rfl T.g__law_weights F__law_weights.kp hb3 (fun _ => .nil) hx (pad_cons (pd_var 1) pad_nil) pkd_nil)))
  (zs_cons (z_set (i := 5) sc_law.nd rfl (Or.inl rfl) (pd_fz (pl_callTy call_list_of cl_list rfl T.n_list (by decide +kernel) (pad_cons (pd_var 4) pad_nil))))
  (zs_cons (z_set (i := 6) sc_law.nd rfl (Or.inl rfl) (pd_of (pv_callU O__law_split (hr.mono (by decide)) rfl T.g__law_split F__law_split.kp hb4 (fun _ => .nil) hx (pad_cons (pd_var 3) (pad_cons (pd_var 4) pad_nil)) pkd_nil)))
  (zs_cons (z_setW (i := 7) sc_law.nd rfl (Or.inl rfl) (pv_callU O__law_told_split (hr.mono (by decide)) rfl T.g__law_told_split F__law_told_split.kp hb5 (fun _ => .nil) hx (pad_cons (pd_var 3) (pad_cons (pd_var 4) pad_nil)) pkd_nil))
  (zs_cons (z_if (PWD.pt (pwd_or (ptd_neX ow passL (hr.mono (by decide)) (pd_var 7) (pd_var 6)) (pwd_or (ptd_neX ow passL (hr.mono (by decide)) (pd_var 4) (pd_var 5)) (pwd_or1 (ptd_neX ow passL (hr.mono (by decide)) (pd_frz (pv_callU O__law_told_split (hr.mono (by decide)) rfl T.g__law_told_split F__law_told_split.kp hb5 (fun _ => .nil) hx (pad_cons (pd_var 3) (pad_cons (pd_callTy call_tuple_of cd_tuple rfl T.n_tuple (by decide +kernel) (pad_cons (pd_var 4) pad_nil)) pad_nil)) pkd_nil)) (pd_var 6))))))
  (zs_one (z_ret pd_bl))
  zs_nil)
  (zs_one (z_if (ptd_notN (pd_var 6))
  (zs_cons (z_if (ptd_neX ow passL (hr.mono (by decide)) (pd_fz (pl_compV (own := [("one", 8)]) (ct := .one 8) rfl sc_law.nd (pd_var 7) (blkOk_by (own := [("one", 8)]) (N := N_law) (sc := defScope s_law) (by decide +kernel)) rfl (fun _ _ _ _ _ => pg_name (i := 8) sc_law.nd rfl (Or.inl rfl)) (fun _ _ _ _ _ => (ptsd_one (ptd_not (ptd_tru (pd_of (pv_callU O__law_whole (hr.mono (by decide)) rfl T.g__law_whole F__law_whole.kp hb6 (fun _ => .nil) passLS (pad_cons (pd_var 8) pad_nil) pkd_nil)))))) (fun _ _ _ _ _ => (pd_var 8)))) (pd_fz (pl_lst pad_nil)))
  (zs_one (z_ret pd_bl))
  zs_nil)
  (zs_cons (z_expr (pd_append (pd_var 7) (pad_cons pd_int pad_nil)))
  (zs_one (z_if (PWD.pt (pwd_or (ptd_neX ow passL (hr.mono (by decide)) (pd_var 4) (pd_var 5)) (pwd_or1 (ptd_neX ow passL (hr.mono (by decide)) (pd_frz (pv_callU O__law_told_split (hr.mono (by decide)) rfl T.g__law_told_split F__law_told_split.kp hb5 (fun _ => .nil) hx (pad_cons (pd_var 3) (pad_cons (pd_var 4) pad_nil)) pkd_nil)) (pd_var 6)))))
  (zs_one (z_ret pd_bl))
  zs_nil))))
  zs_nil)))))))))
  (zs_one (z_ret (pd_and (pd_eqX ow passL (hr.mono (by decide)) (pd_frz (pv_callU0 O_split (hr.mono (by decide)) rfl T.g_split F_split.kp hb8 (fun _ => .nil) hx  (pkd_cons pd_int (pkd_cons (pd_fz (pl_lst (pad_cons pd_int (pad_cons pd_int pad_nil)))) pkd_nil)))) (pd_fz (pl_lst (pad_cons pd_int (pad_cons pd_int pad_nil))))) (pd_one (pd_eqX ow passL (hr.mono (by decide)) (pd_frz (pv_callU O_split (hr.mono (by decide)) rfl T.g_split F_split.kp hb7 (fun _ => .nil) hx (pad_cons pd_int (pad_cons (pd_fz (pl_lst pad_nil)) pad_nil)) pkd_nil)) (pd_fz (pl_lst pad_nil)))))))))
end
abbrev loose0 : List Str := ["NothingMade", "_law_pen", "_law_draw", "_law_far", "_law_split", "_law_told_split", "_law_whole", "_law_weights"]
abbrev looseY : List Str := loose0
abbrev RY : PySem.W.OpenRow := PySem.W.OpenLaw.row PySem.Challenge.rw_yarnback_k38_pence_split
abbrev hkY : PySem.W.Hook := hookT tsC 5 FA FN
def obY (s : PySem.W.SharedT) : AlY := obsTG tsC 5 FA FN (HandSHeadRun.getT s)
theorem obY_eq (s : PySem.W.SharedT) : obY s = hkY.obs s.abs := obsTG_eq (HandSHeadRun.getT_eq s)
theorem runY (w : World) : HandSHeadRun.RunEq RY (PySem.W.view RY.prog [3, 12]) hkY obY 6000 looseY w := by
  intro os
  kernel_rfl
end Y
open PySem PySem.W PySem.Calls PyProof.Rows
theorem PySem.Challenge.cw_yarnback_k38_pence_split_holds : PySem.Challenge.rw_yarnback_k38_pence_split.Holds := by
  w_on; o_law
  refine HandSHeadRun.head_any (r := OpenLaw.row PySem.Challenge.rw_yarnback_k38_pence_split) (q := view (OpenLaw.row PySem.Challenge.rw_yarnback_k38_pence_split).prog [3, 12]) (H := Y.hkY) (ob := Y.obY) (M := 6000) (loose := Y.looseY) (d := HandSHeadRun.topDef (OpenLaw.row PySem.Challenge.rw_yarnback_k38_pence_split).prog 12) (kwd := []) Y.obY_eq
    (by kernel_rfl) (fun s => by kernel_rfl) Y.runY (by kernel_rfl) (by kernel_rfl) (by kernel_rfl) (by rfl) (by first | assumption | decide +kernel) (by decide +kernel) ⟨rfl, rfl, rfl, rfl, rfl, by decide +kernel⟩ ?hw ?hc
  case hw => w_witness2
  case hc =>
    refine Y.walk_ofYT Y.tsC (l := PySem.Challenge.rw_yarnback_k38_pence_split) (n := 63) (k := 12) (x := "script") (CX := fun w => L2.CX PySem.Challenge.rw_yarnback_k38_pence_split.prog w) rfl (by decide) (by kernel_rfl) ⟨rfl, by decide, by decide⟩ (by decide +kernel) ?F (fun w H s e s' h => Y.noCX w H s e s' h)
    intro w mg fa h YY G hmg0
    obtain ⟨K, KX, c⟩ := YY
    have hmg : mg ("law" : PySem.Str) = some (.ref fa) := by
      have e : (HandSHeadRun.topDef (OpenLaw.row PySem.Challenge.rw_yarnback_k38_pence_split).prog 12).name = ("law" : PySem.Str) := by kernel_rfl
      rw [← e]
      exact hmg0
    have T := Y.tx_of KX G c
    have ef := hmg.symm.trans T.g_law
    cases ef
    obtain ⟨fd, F⟩ := T.f_law
    have hb := L2.FunD.bindsA (ps := ["script"]) F fun _ _ _ _ _ _ us hl => match us, hl with | [_], _ => rfl
    refine ⟨K, fd, Y.spOf K (Y.zx K) Y.c_law, KX, T.tb, fun s v => hb s [v] rfl, fun H a ns hl hT hS => Y.law_spT rfl T.tb hT hl hS, fun base _ _ hTB => ?_⟩
    obtain ⟨fd', F', O⟩ := Y.ok_law PySem.Challenge.rw_yarnback_k38_pence_split.prog w base T hTB
    have efd := Y.fd_uniq F F'
    subst efd
    exact O
