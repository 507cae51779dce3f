import PyProof.Rows.All
import Wide.All
import OpenK.AllK
import Wide.FinOn
import HandS.Dict
import HandS.ForMost
import HandS.Evl
import HandS.Exc
import HandS.Lambda
import HandS.Wide
import HandS.ForExc
import HandS.Defaults
import HandS.MakeKw
import PyProof.StrOps2
import HandS.TupAny
import HandS.ExcOwn
import HandS.MakeKwOnly
import HandS.OwnEq
import HandS.IsInst
import PyProof.EqAt
import PyProof.EqKinds
import PyProof.NeKinds
import PyProof.TupleCall
import HandS.Codes
import HandS.Head0
import HandS.Head1
import HandS.Head2
import HandS.HeadEnd
import HandS.HeadHook1
import HandS.HeadHook2
import HandS.More
import HandS.Words
import HandS.WordsExc
import HandS.Ends
import KE.KCallOwn
import OpenK.KOps
import HandS.FStr
import HandS.Text
import HandS.StrMore
import HandS.RaiseMore
import HandS.Small
import HandS.SetFor
import HandS.SortInts
import HandS.Conv
import HandS.Deep
import KE.SortData
import HandS.Replace
import HandS.TupLen
import PyProof.ListRange
import HandS.ExcInit
import HandS.ExcField
import HandS.ExcIs
import KE.KExcInit
import HandS.TryMany
import HandS.ExcValue
import KE.KExcIs
import HandS.Style
import HandS.Flow
import HandS.Zip
import HandS.SortKw
import PyProof.Rows.CallKw2
import HandS.EndTab
import KE.KNest
import HandS.Set
import HandS.Strs
import PyProof.Rows.SortStr
import HandS.Sort
import HandS.TupSets
import KE.KDictPairs
import KE.KStateDown
import Lean
import PySem.Challenge.RW_yarnback_k08_sheets_refused
set_option Elab.async false
set_option linter.all false
set_option maxRecDepth 100000
set_option maxHeartbeats 20000000
/-! Z11: dicts whose keys are values of a kind that is seen in the heap: texts and tuples side by side -/
namespace MX
open PySem PySem.Spec PyProof.Rows
structure VK (prog : Program) (w : World) (K : Type) [DecidableEq K] where
  is : Heap → K → Value → Prop
  hash : K → Int
  draws : K → Nat
  room : Around → Prop
  inj : ∀ {h : Heap} {v : Value} {x y : K}, is h x v → is h y v → x = y
  keeps : ∀ {h h' : Heap} {k : K} {v : Value} {d : Addr} {o : Obj} {es : Array DictEntry} {ep : Nat}, is h k v → h.get? d = some o → o.data = .dict es ep → Heap.SameBut d h h' → is h' k v
  pyHash : ∀ {A : Around} {E : Value → Shared → Prop} {s : Shared} {k : K} {v : Value} {Q : Int → Shared → Prop}, room A → is s.heap k v → Q (hash k) { s with toks := s.toks + draws k } → wpAny (model prog w) A (PySem.pyHash v) Q E s
  eqBool : ∀ {A : Around} {E : Value → Shared → Prop} {s : Shared} {x y : K} {u v : Value} {Q : Bool → Shared → Prop}, room A → is s.heap x u → is s.heap y v → Q (decide (x = y)) s → wpAny (model prog w) A (PySem.eqBool u v) Q E s
  quiet : ∀ {A : Around} {E : Value → Shared → Prop} {s : Shared} {k : K} {v : Value} {Q : Bool → Shared → Prop}, is s.heap k v → Q true s → wpAny (model prog w) A (eqIsQuiet 8 v) Q E s
  shape : ∀ {h : Heap} {k : K} {v : Value}, is h k v → (∃ x t, v = .str x t) ∨ ∃ a, v = .ref a
  strB : ∀ {h : Heap} {k k' : K} {x : Str} {t : Tok} {v : Value}, is h k (.str x t) → is h k' v → v.isStr x = decide (k' = k)
section
variable {prog : Program} {w : World} {K : Type} [DecidableEq K]
/-- a row: key, its value, what lies there -/
abbrev Rw (K : Type) := K × Value × Value
def ent (knd : VK prog w K) (x : Rw K) : DictEntry := ⟨knd.hash x.1, x.2.1, x.2.2⟩
def DictOfV (knd : VK prog w K) (h : Heap) (d : Addr) (xs : List (Rw K)) : Prop :=
  ∃ o es ep, h.get? d = some o ∧ o.ExactDict ∧ o.data = .dict es ep ∧ es.toList = xs.map (ent knd) ∧ (∀ x ∈ xs, knd.is h x.1 x.2.1) ∧ (xs.map (·.1)).Nodup
variable {knd : VK prog w K}
theorem ent_at {es : Array DictEntry} {xs : List (Rw K)} (he : es.toList = xs.map (ent knd)) (j : Nat) : es[j]? = (xs[j]?).map (ent knd) := by
  rw [← Array.getElem?_toList, he, List.getElem?_map]
theorem ent_size {es : Array DictEntry} {xs : List (Rw K)} (he : es.toList = xs.map (ent knd)) : es.size = xs.length := by
  rw [← Array.length_toList, he, List.length_map]
variable {A : Around} {E : Value → Shared → Prop} {s : Shared}
/-- what is known of the entries at a search -/
structure Sch (knd : VK prog w K) (h : Heap) (d : Addr) (key : Value) (k : K) (es : Array DictEntry) (xs : List (Rw K)) : Prop where
  ents : es.toList = xs.map (ent knd)
  iss : ∀ x ∈ xs, knd.is h x.1 x.2.1
  nd : (xs.map (·.1)).Nodup
  key : knd.is h k key
theorem Sch.has {h : Heap} {d : Addr} {key : Value} {k : K} {es : Array DictEntry} {xs : List (Rw K)} (S : Sch knd h d key k es xs) {j : Nat} {p : Value × Value} (hj : xs[j]? = some (k, p)) : ((es[j]?.map (·.hash)) == some (knd.hash k)) = true := by
  rw [ent_at S.ents j, hj]
  simp [ent]
theorem Sch.row {h : Heap} {d : Addr} {key : Value} {k : K} {es : Array DictEntry} {xs : List (Rw K)} (S : Sch knd h d key k es xs) {j : Nat} (hj : j < es.size) : ∃ k' kv v, xs[j]? = some (k', kv, v) ∧ es[j]? = some ⟨knd.hash k', kv, v⟩ ∧ knd.is h k' kv := by
  have hsz := ent_size S.ents
  obtain ⟨⟨k', kv, v⟩, hx⟩ : ∃ y, xs[j]? = some y := ⟨xs[j]'(by omega), List.getElem?_eq_getElem _⟩
  exact ⟨k', kv, v, hx, by rw [ent_at S.ents j, hx]; rfl, S.iss _ (List.mem_of_getElem? hx)⟩
theorem Sch.mem {h : Heap} {d : Addr} {key : Value} {k : K} {es : Array DictEntry} {xs : List (Rw K)} (S : Sch knd h d key k es xs) {e : DictEntry} (he : e ∈ es) : ∃ x ∈ xs, e = ent knd x := by
  have : e ∈ xs.map (ent knd) := S.ents ▸ Array.mem_toList_iff.mpr he
  obtain ⟨x, hx, rfl⟩ := List.mem_map.mp this
  exact ⟨x, hx, rfl⟩
theorem DictOfV.typeIs {d : Addr} {xs : List (Rw K)} (hm : DictOfV knd s.heap d xs) : s.TypeIs (.ref d) "dict" :=
  let ⟨o, _, _, ho, hc, _⟩ := hm; ⟨o, ho, hc.1⟩
end

/-! ### texts, and tuples of texts and whole numbers -/
inductive MK where
  | s (x : Str) | t (ks : List L2.Key)
  deriving DecidableEq
end MX
namespace Y
open PySem L2
open Evl (Ex)

/-! ### pure values, owned things, slots -/
inductive W where
  | non | bl (b : Bool) | int (i : Int) | str (s : Str) | ty (n : String) | ob (a : Addr)
  | tup (ws : List W) | lst (ws : List W) | dK (kvs : List (Key × W)) | dT (kvs : List (List Key × W)) | ins (c : Nat) (fs : List W)
  /-- a dict that was locked for good: it may be walked -/
  | dF (kvs : List (Key × W))
  /-- a tuple that is known to have no dict of its own -/
  | tp (ws : List W)
  /-- the script: a list that is read alone -/
  | scr (ns : List Int)
  /-- an error that was caught: its class, its fields -/
  | xc (c : Nat) (fs : List W)
inductive T where
  | fz (w : W) | lst (ws : List W) | dK (kvs : List (Key × W)) | dT (kvs : List (List Key × W)) | ins (c : Nat) (fs : List T)
  /-- a frozen thing, with own lists that lie at known places -/
  | wo (w : W) (ls : List (Addr × List W))
  /-- a dict with texts and tuples as keys, side by side -/
  | dR (rows : List (W × W))
  /-- such a dict at q, of own dicts at known places -/
  | dd (q : Addr) (rows : List (W × Addr × Obj × List (W × W)))
inductive Sl where
  | un | lo (t : T) | mp (k : Nat) (t : T)
  /-- a caller that waits: its variables, its arguments, its slots -/
  | fr (f c : Addr) (q : Str) (σ : L2.St) (pv : List V) (st : List Sl)
abbrev S := List Sl
inductive R where
  | w (w : W) | pk (i : Nat)
/-- an own exception: its class, its fields -/
structure XW where
  c : Nat
  fs : List W
/-- the own classes' fields, in the order in which they are stored -/
def fldN : Nat → List Str
  | 0 => ["least", "most"] | 1 => ["drams"] | 2 => ["pence"] | 3 => ["parts"] | 4 => ["gives", "told"] | 5 => ["room"] | 6 => ["price", "kept", "many"] | 7 => ["book"]
  | 10 => ["text"] | 11 => ["name"] | 12 => ["name"] | 13 => [] | 14 => ["name"] | 15 => ["hour", "day"] | 16 => ["row"] | 17 => ["row"] | 18 => ["name"] | 19 => ["name"]
  | 20 => ["home", "piece"] | 21 => ["thing"] | 22 => ["number"] | 23 => ["long", "ell"] | 24 => ["by"] | 25 => ["paper"] | 26 => [] | 27 => [] | 28 => ["record"]
  | _ => []
/-- where the own classes stand in a law's text -/
structure Zx where
  cls : Nat → Addr
  /-- the classes that stand in the row -/
  has : Nat → Bool
  /-- the tables of code objects of the defs that make lambdas, with the lambdas' names -/
  tabs : List (Addr × Str)
  /-- the hashes of keys -/
  hs : MX.MK → Int
/-- without them -/
abbrev Zx.z0 (Z : Zx) : Zx := ⟨Z.cls, Z.has, [], Z.hs⟩

/-- an error's object, of a class, with a dict of its own or none -/
def exH (a : Addr) (cls : Value) (d : Option Addr) : HO := .ext fun h => ∃ oe vs, h.get? a = some oe ∧ Zc cls d oe ∧ oe.data = .fields vs
abbrev Fp := List (Addr × HO)
mutual
inductive Rep (K : PySem.W.Frag) (Z : Zx) (H : Hp) : V → W → Prop
  | non : Rep K Z H .non .non
  | bl {b} : Rep K Z H (.bl b) (.bl b)
  | int {i} : Rep K Z H (.int i) (.int i)
  | str {s} : Rep K Z H (.str s) (.str s)
  | ty {n} : Rep K Z H (.ty n) (.ty n)
  | ob {a} : Rep K Z H (.ref a) (.ob a)
  | tup {p xs ws} : SqT K H p xs → Reps K Z H xs ws → Rep K Z H (.ref p) (.tup ws)
  | lst {p xs ws} : H p = some (.lst xs) → Reps K Z H xs ws → Rep K Z H (.ref p) (.lst ws)
  | scr {p ns} : SqL K H p (ns.map V.int) → Rep K Z H (.ref p) (.scr ns)
  | dK {p kvs ws} : Rd H p (.dK kvs) → RepK K Z H kvs ws → Rep K Z H (.ref p) (.dK ws)
  | dT {p kvs ws} : Rd H p (.dT kvs) → RepKT K Z H kvs ws → Rep K Z H (.ref p) (.dT ws)
  | dF {p o kvs ws} : H p = some (.frz o (.dK kvs)) → RepK K Z H kvs ws → Rep K Z H (.ref p) (.dF ws)
  | tp {p o xs ws} : H p = some (.frz o (.tup xs)) → o.dict = none → Reps K Z H xs ws → Rep K Z H (.ref p) (.tp ws)
  | ins {p c dx fs ws} : Z.has c = true → H p = some (.ins (Z.cls c) dx fs) → fs.map (·.1) = fldN c → Reps K Z H (fs.map (·.2)) ws → Rep K Z H (.ref p) (.ins c ws)
  | xc0 {a c} : H a = some (exH a (.ref (Z.cls c)) none) → Rep K Z H (.ref a) (.xc c [])
  | xcd {a c d fs ws} : H a = some (exH a (.ref (Z.cls c)) (some d)) → H d = some (.xd fs) → fs.map (·.1) = fldN c → Reps K Z H (fs.map (·.2)) ws → Rep K Z H (.ref a) (.xc c ws)
inductive Reps (K : PySem.W.Frag) (Z : Zx) (H : Hp) : List V → List W → Prop
  | nil : Reps K Z H [] []
  | cons {v w vs ws} : Rep K Z H v w → Reps K Z H vs ws → Reps K Z H (v :: vs) (w :: ws)
inductive RepK (K : PySem.W.Frag) (Z : Zx) (H : Hp) : List (Key × V) → List (Key × W) → Prop
  | nil : RepK K Z H [] []
  | cons {k v w vs ws} : Rep K Z H v w → RepK K Z H vs ws → RepK K Z H ((k, v) :: vs) ((k, w) :: ws)
inductive RepKT (K : PySem.W.Frag) (Z : Zx) (H : Hp) : List (List Key × V) → List (List Key × W) → Prop
  | nil : RepKT K Z H [] []
  | cons {k v w vs ws} : Rep K Z H v w → RepKT K Z H vs ws → RepKT K Z H ((k, v) :: vs) ((k, w) :: ws)
end
/-- a value as a key -/
def mkK : W → Option Key
  | .int i => some (.inl i)
  | .str s => some (.inr s)
  | _ => none
def mkKs : List W → Option (List Key)
  | [] => some []
  | w :: ws => match mkK w, mkKs ws with
    | some k, some ks => some (k :: ks)
    | _, _ => none
def mkW : W → Option MX.MK
  | .str s => some (.s s)
  | .tup ws => (mkKs ws).map .t
  | _ => none
/-- the dict's object at d, its entries as they stand -/
def rawD (hs : MX.MK → Int) (d : Addr) (xs : List (MX.MK × V × V)) : HO := .ext fun h => xs.length ≤ sizeLine ∧ (d == sysModules) = false ∧ (xs.map (·.1)).Nodup ∧ ∃ o es ep, h.get? d = some o ∧ o.ExactDict ∧ o.data = .dict es ep ∧
  Paired (fun (x : MX.MK × V × V) (e : DictEntry) => e.hash = hs x.1 ∧ RelV x.2.1 e.key ∧ RelV x.2.2 e.val) xs es.toList
/-- the dict's object at d: this very one -/
def rawO (hs : MX.MK → Int) (d : Addr) (o : Obj) (xs : List (MX.MK × V × V)) : HO := .ext fun h => xs.length ≤ sizeLine ∧ (d == sysModules) = false ∧ (xs.map (·.1)).Nodup ∧ h.get? d = some o ∧ ∃ es ep, o.ExactDict ∧ o.data = .dict es ep ∧
  Paired (fun (x : MX.MK × V × V) (e : DictEntry) => e.hash = hs x.1 ∧ RelV x.2.1 e.key ∧ RelV x.2.2 e.val) xs es.toList
inductive RepRw (K : PySem.W.Frag) (Z : Zx) (H : Hp) : List (MX.MK × V × V) → List (W × W) → Prop
  | nil : RepRw K Z H [] []
  | cons {m kv v kw w xs rows} : mkW kw = some m → Rep K Z H kv kw → Rep K Z H v w → RepRw K Z H xs rows → RepRw K Z H ((m, kv, v) :: xs) ((kw, w) :: rows)
/-- own dicts at known places, under their keys -/
inductive RepDD (K : PySem.W.Frag) (Z : Zx) (H : Hp) : List (MX.MK × V × V) → List (W × Addr × Obj × List (W × W)) → Fp → Prop
  | nil : RepDD K Z H [] [] []
  | cons {m kv kw a o ys inner xs rows G} : mkW kw = some m → Rep K Z H kv kw → RepRw K Z H ys inner → RepDD K Z H xs rows G → RepDD K Z H ((m, kv, .ref a) :: xs) ((kw, a, o, inner) :: rows) ((a, rawO Z.hs a o ys) :: G)
/-- own lists at known places -/
inductive RepL (K : PySem.W.Frag) (Z : Zx) (H : Hp) : List (Addr × List W) → Fp → Prop
  | nil : RepL K Z H [] []
  | cons {a xs ws ls G} : Reps K Z H xs ws → RepL K Z H ls G → RepL K Z H ((a, ws) :: ls) ((a, .lst xs) :: G)
mutual
/-- an owned thing, by its own objects (the footprint); what it holds is frozen in H -/
inductive RepT (K : PySem.W.Frag) (Z : Zx) (H : Hp) : V → T → Fp → Prop
  | fz {v w} : Rep K Z H v w → RepT K Z H v (.fz w) []
  | lst {p xs ws} : Reps K Z H xs ws → RepT K Z H (.ref p) (.lst ws) [(p, .lst xs)]
  | dK {p kvs ws} : RepK K Z H kvs ws → RepT K Z H (.ref p) (.dK ws) [(p, .dK kvs)]
  | dT {p kvs ws} : RepKT K Z H kvs ws → RepT K Z H (.ref p) (.dT ws) [(p, .dT kvs)]
  | ins {p c dx fs ts G} : Z.has c = true → fs.map (·.1) = (fldN c).take ts.length → RepTs K Z H (fs.map (·.2)) ts G → RepT K Z H (.ref p) (.ins c ts) ((p, .ins (Z.cls c) dx fs) :: G)
  | wo {v w ls G} : Rep K Z H v w → RepL K Z H ls G → RepT K Z H v (.wo w ls) G
  | dR {p xs rows} : RepRw K Z H xs rows → RepT K Z H (.ref p) (.dR rows) [(p, rawD Z.hs p xs)]
  | dd {q xs rows G} : RepDD K Z H xs rows G → RepT K Z H (.ref q) (.dd q rows) ((q, rawD Z.hs q xs) :: G)
inductive RepTs (K : PySem.W.Frag) (Z : Zx) (H : Hp) : List V → List T → Fp → Prop
  | nil : RepTs K Z H [] [] []
  | cons {v t vs ts G1 G2} : RepT K Z H v t G1 → RepTs K Z H vs ts G2 → RepTs K Z H (v :: vs) (t :: ts) (G1 ++ G2)
end
/-- the slots; pv: the def's arguments as they came in -/
inductive Sts (K : PySem.W.Frag) (Z : Zx) (H : Hp) : List V → L2.St → S → Fp → Prop
  | nil {pv} : Sts K Z H pv [] [] []
  | un {pv o σ st G} : Sts K Z H pv σ st G → Sts K Z H pv (o :: σ) (.un :: st) G
  | lo {pv v t σ st G1 G2} : RepT K Z H v t G1 → Sts K Z H pv σ st G2 → Sts K Z H pv (some v :: σ) (.lo t :: st) (G1 ++ G2)
  | mp {pv v k t σ st G1 G2} : pv[k]? = some v → RepT K Z H v t G1 → Sts K Z H pv σ st G2 → Sts K Z H pv (some v :: σ) (.mp k t :: st) (G1 ++ G2)
  | fr {pv f c q σ' pv' st' σ st G1 G2} : H c = some (LamX.CodeO c q) → Sts K Z H pv' σ' st' G1 → Sts K Z H pv σ st G2 → Sts K Z H pv (some (.ref f) :: σ) (.fr f c q σ' pv' st' :: st) (G1 ++ G2)
/-- F's word for a table of code objects that bear the name q -/
def tabO (q : Str) : HO := .xd [(q, .non), (q, .bl true), (q, .bl false)]
def tabQ : HO → Option Str
  | .xd [(q, .non), (_, .bl true), (_, .bl false)] => some q
  | _ => none
/-- the table at P: each code object that it tells is known, and bears the name q -/
def TabQ (H0 H : Hp) (P : Addr) (q : Str) : Prop := ∃ ps : Array Value, H P = some (.tbl ps) ∧ TriplesOk ps.toList ∧ ∀ (pos : Pos) (cv : Value), codeAmong pos ps.toList = some cv → ∃ c, cv = .ref c ∧ H0 c = some (LamX.CodeO c q)
theorem TabQ.up {H0 H H0' H' : Hp} {P : Addr} {q : Str} (t : TabQ H0 H P q) (e0 : Ex H0 H0') (e : ∀ o, H P = some o → H' P = some o) : TabQ H0' H' P q := by
  obtain ⟨ps, h1, h2, h3⟩ := t
  refine ⟨ps, e _ h1, h2, fun pos cv hc => ?_⟩
  obtain ⟨c, e1, e2⟩ := h3 pos cv hc
  exact ⟨c, e1, e0 _ _ e2⟩
/-- the world: H0 what is frozen, F the callers' own, G this def's own -/
structure Wd (H0 F : Hp) (G : Fp) (H : Hp) : Prop where
  ex : Ex H0 H
  fr : ∀ a o, F a = some o → tabQ o = none → H a = some o
  ow : ∀ q ∈ G, H q.1 = some q.2
  nd : (G.map (·.1)).Nodup
  d0 : ∀ q ∈ G, H0 q.1 = none
  dF : ∀ q ∈ G, F q.1 = none
  d0F : ∀ a o, H0 a = some o → F a = none
  tb : ∀ a o q, F a = some o → tabQ o = some q → TabQ H0 H a q
  tn : ∀ q ∈ G, tabQ q.2 = none
theorem Wd.fnone {H0 F H : Hp} {G : Fp} {p : Addr} (wd : Wd H0 F G H) (hp : H p = none) : F p = none := by
  cases q : F p with
  | none => rfl
  | some u =>
    cases z : tabQ u with
    | none => rw [wd.fr p u q z] at hp; cases hp
    | some t =>
      obtain ⟨ps, h, _⟩ := wd.tb p u t q z
      rw [h] at hp; cases hp
inductive RepR (K : PySem.W.Frag) (Z : Zx) (H : Hp) (σ : L2.St) : V → R → Prop
  | w {v w} : Rep K Z H v w → RepR K Z H σ v (.w w)
  | pk {v i} : σ[i]? = some (some v) → RepR K Z H σ v (.pk i)
/-- readable now: frozen, or an own object whose parts are frozen -/
inductive RepP (K : PySem.W.Frag) (Z : Zx) (H0 H : Hp) : V → W → Prop
  | fz {v w} : Rep K Z H0 v w → RepP K Z H0 H v w
  | lst {p xs ws} : H p = some (.lst xs) → Reps K Z H0 xs ws → RepP K Z H0 H (.ref p) (.lst ws)
  | dK {p kvs ws} : H p = some (.dK kvs) → RepK K Z H0 kvs ws → RepP K Z H0 H (.ref p) (.dK ws)
  | dT {p kvs ws} : H p = some (.dT kvs) → RepKT K Z H0 kvs ws → RepP K Z H0 H (.ref p) (.dT ws)
  | ins {p c dx fs ws} : Z.has c = true → H p = some (.ins (Z.cls c) dx fs) → fs.map (·.1) = fldN c → Reps K Z H0 (fs.map (·.2)) ws → RepP K Z H0 H (.ref p) (.ins c ws)
def RepX (K : PySem.W.Frag) (Z : Zx) (H0 H : Hp) (cls : Value) (dx : Option Addr) (x : XW) : Prop :=
  cls = .ref (Z.cls x.c) ∧ ((dx = none ∧ x.fs = []) ∨ ∃ d fs, dx = some d ∧ H0 d = some (.xd fs) ∧ fs.map (·.1) = fldN x.c ∧ Reps K Z H0 (fs.map (·.2)) x.fs)

/-! ### monotone -/
section
variable {K : PySem.W.Frag} {Z : Zx} {H H' : Hp}
mutual
theorem Rep.z0 : ∀ {v w}, Rep K Z H v w → Rep K Z.z0 H v w
  | _, _, .non => .non
  | _, _, .bl => .bl
  | _, _, .int => .int
  | _, _, .str => .str
  | _, _, .ty => .ty
  | _, _, .ob => .ob
  | _, _, .tup h r => .tup h (Reps.z0 r)
  | _, _, .lst h r => .lst h (Reps.z0 r)
  | _, _, .scr h => .scr h
  | _, _, .dK h r => .dK h (RepK.z0 r)
  | _, _, .dT h r => .dT h (RepKT.z0 r)
  | _, _, .dF h r => .dF h (RepK.z0 r)
  | _, _, .tp h d r => .tp h d (Reps.z0 r)
  | _, _, .ins a b c r => .ins (Z := Z.z0) a b c (Reps.z0 r)
  | _, _, .xc0 h => .xc0 (Z := Z.z0) h
  | _, _, .xcd a b c r => .xcd (Z := Z.z0) a b c (Reps.z0 r)
theorem Reps.z0 : ∀ {v w}, Reps K Z H v w → Reps K Z.z0 H v w
  | _, _, .nil => .nil
  | _, _, .cons h r => .cons (Rep.z0 h) (Reps.z0 r)
theorem RepK.z0 : ∀ {v w}, RepK K Z H v w → RepK K Z.z0 H v w
  | _, _, .nil => .nil
  | _, _, .cons h r => .cons (Rep.z0 h) (RepK.z0 r)
theorem RepKT.z0 : ∀ {v w}, RepKT K Z H v w → RepKT K Z.z0 H v w
  | _, _, .nil => .nil
  | _, _, .cons h r => .cons (Rep.z0 h) (RepKT.z0 r)
end
mutual
theorem Rep.mono (e : Ex H H') : ∀ {v w}, Rep K Z H v w → Rep K Z H' v w
  | _, _, .non => .non
  | _, _, .bl => .bl
  | _, _, .int => .int
  | _, _, .str => .str
  | _, _, .ty => .ty
  | _, _, .ob => .ob
  | _, _, .tup h r => .tup (Evl.ex_t e h) (Reps.mono e r)
  | _, _, .lst h r => .lst (e _ _ h) (Reps.mono e r)
  | _, _, .scr h => .scr (Evl.ex_l e h)
  | _, _, .dK h r => .dK (Evl.ex_rd e h) (RepK.mono e r)
  | _, _, .dT h r => .dT (Evl.ex_rd e h) (RepKT.mono e r)
  | _, _, .dF h r => .dF (e _ _ h) (RepK.mono e r)
  | _, _, .tp h d r => .tp (e _ _ h) d (Reps.mono e r)
  | _, _, .ins z h n r => .ins z (e _ _ h) n (Reps.mono e r)
  | _, _, .xc0 h => .xc0 (e _ _ h)
  | _, _, .xcd h h2 n r => .xcd (e _ _ h) (e _ _ h2) n (Reps.mono e r)
theorem Reps.mono (e : Ex H H') : ∀ {v w}, Reps K Z H v w → Reps K Z H' v w
  | _, _, .nil => .nil
  | _, _, .cons h r => .cons (Rep.mono e h) (Reps.mono e r)
theorem RepK.mono (e : Ex H H') : ∀ {v w}, RepK K Z H v w → RepK K Z H' v w
  | _, _, .nil => .nil
  | _, _, .cons h r => .cons (Rep.mono e h) (RepK.mono e r)
theorem RepKT.mono (e : Ex H H') : ∀ {v w}, RepKT K Z H v w → RepKT K Z H' v w
  | _, _, .nil => .nil
  | _, _, .cons h r => .cons (Rep.mono e h) (RepKT.mono e r)
end
theorem RepL.mono (e : Ex H H') : ∀ {ls G}, RepL K Z H ls G → RepL K Z H' ls G
  | _, _, .nil => .nil
  | _, _, .cons h r => .cons (h.mono e) (RepL.mono e r)
theorem RepL.tn : ∀ {ls : List (Addr × List W)} {G : Fp}, RepL K Z H ls G → ∀ q ∈ G, tabQ q.2 = none
  | _, _, .nil => fun _ h => (nomatch h)
  | _, _, .cons _ r => fun q h => by
    rcases List.mem_cons.mp h with e | h
    · rw [e]; rfl
    · exact RepL.tn r q h
theorem RepRw.mono (e : Ex H H') : ∀ {xs rows}, RepRw K Z H xs rows → RepRw K Z H' xs rows
  | _, _, .nil => .nil
  | _, _, .cons m a b r => .cons m (a.mono e) (b.mono e) (RepRw.mono e r)
theorem RepDD.mono (e : Ex H H') : ∀ {xs rows G}, RepDD K Z H xs rows G → RepDD K Z H' xs rows G
  | _, _, _, .nil => .nil
  | _, _, _, .cons m a b r => .cons m (a.mono e) (b.mono e) (RepDD.mono e r)
theorem RepDD.tn : ∀ {xs rows} {G : Fp}, RepDD K Z H xs rows G → ∀ q ∈ G, tabQ q.2 = none
  | _, _, _, .nil => fun _ h => (nomatch h)
  | _, _, _, .cons _ _ _ r => fun q h => by
    rcases List.mem_cons.mp h with e | h
    · rw [e]; rfl
    · exact RepDD.tn r q h
mutual
theorem RepT.mono (e : Ex H H') : ∀ {v t G}, RepT K Z H v t G → RepT K Z H' v t G
  | _, _, _, .fz h => .fz (h.mono e)
  | _, _, _, .lst h => .lst (h.mono e)
  | _, _, _, .dK h => .dK (h.mono e)
  | _, _, _, .dT h => .dT (h.mono e)
  | _, _, _, .ins z n h => .ins z n (RepTs.mono e h)
  | _, _, _, .wo h r => .wo (h.mono e) (r.mono e)
  | _, _, _, .dR r => .dR (r.mono e)
  | _, _, _, .dd r => .dd (r.mono e)
theorem RepTs.mono (e : Ex H H') : ∀ {v t G}, RepTs K Z H v t G → RepTs K Z H' v t G
  | _, _, _, .nil => .nil
  | _, _, _, .cons h r => .cons (RepT.mono e h) (RepTs.mono e r)
end
mutual
theorem RepT.tn : ∀ {v : V} {t : T} {G : Fp}, RepT K Z H v t G → ∀ q ∈ G, tabQ q.2 = none
  | _, _, _, .fz _ => fun _ h => (nomatch h)
  | _, _, _, .lst _ => fun q h => by rw [List.mem_singleton.mp h]; rfl
  | _, _, _, .dK _ => fun q h => by rw [List.mem_singleton.mp h]; rfl
  | _, _, _, .dT _ => fun q h => by rw [List.mem_singleton.mp h]; rfl
  | _, _, _, .ins _ _ r => fun q h => by
    rcases List.mem_cons.mp h with e | h
    · rw [e]; rfl
    · exact RepTs.tn r q h
  | _, _, _, .wo _ r => r.tn
  | _, _, _, .dR _ => fun q h => by rw [List.mem_singleton.mp h]; rfl
  | _, _, _, .dd r => fun q h => by
    rcases List.mem_cons.mp h with e | h
    · rw [e]; rfl
    · exact r.tn q h
theorem RepTs.tn : ∀ {v : List V} {t : List T} {G : Fp}, RepTs K Z H v t G → ∀ q ∈ G, tabQ q.2 = none
  | _, _, _, .nil => fun _ h => (nomatch h)
  | _, _, _, .cons h r => fun q hq => (List.mem_append.mp hq).elim (RepT.tn h q) (RepTs.tn r q)
end
theorem Sts.mono (e : Ex H H') : ∀ {pv : List V} {σ st G}, Sts K Z H pv σ st G → Sts K Z H' pv σ st G
  | _, _, _, _, .nil => .nil
  | _, _, _, _, .un h => .un (Sts.mono e h)
  | _, _, _, _, .lo r h => .lo (r.mono e) (Sts.mono e h)
  | _, _, _, _, .mp p r h => .mp p (r.mono e) (Sts.mono e h)
  | _, _, _, _, .fr z r h => .fr (e _ _ z) (Sts.mono e r) (Sts.mono e h)
theorem RepR.mono {σ : L2.St} (e : Ex H H') {v : V} {r : R} (h : RepR K Z H σ v r) : RepR K Z H' σ v r := by
  cases h with
  | w h => exact .w (h.mono e)
  | pk h => exact .pk h
theorem Reps.length : ∀ {vs ws}, Reps K Z H vs ws → vs.length = ws.length
  | _, _, .nil => rfl
  | _, _, .cons _ r => by rw [List.length_cons, List.length_cons, Reps.length r]
theorem RepK.length : ∀ {vs ws}, RepK K Z H vs ws → vs.length = ws.length
  | _, _, .nil => rfl
  | _, _, .cons _ r => by rw [List.length_cons, List.length_cons, RepK.length r]
theorem RepKT.length : ∀ {vs ws}, RepKT K Z H vs ws → vs.length = ws.length
  | _, _, .nil => rfl
  | _, _, .cons _ r => by rw [List.length_cons, List.length_cons, RepKT.length r]
theorem RepTs.length : ∀ {vs ts G}, RepTs K Z H vs ts G → vs.length = ts.length
  | _, _, _, .nil => rfl
  | _, _, _, .cons _ r => by rw [List.length_cons, List.length_cons, RepTs.length r]
theorem Reps.get : ∀ {vs ws} {i : Nat} {w}, Reps K Z H vs ws → ws[i]? = some w → ∃ v, vs[i]? = some v ∧ Rep K Z H v w
  | _, _, i, _, .nil, e => by simp at e
  | _, _, 0, _, .cons h r, e => by simp at e; subst e; exact ⟨_, rfl, h⟩
  | _, _, i + 1, w, .cons h r, e => by
    obtain ⟨v, h1, h2⟩ := Reps.get (i := i) (w := w) r (by simpa using e)
    exact ⟨v, by simpa using h1, h2⟩
theorem Reps.getV : ∀ {vs ws} {i : Nat} {v}, Reps K Z H vs ws → vs[i]? = some v → ∃ w, ws[i]? = some w ∧ Rep K Z H v w
  | _, _, i, _, .nil, e => by simp at e
  | _, _, 0, _, .cons h r, e => by simp at e; subst e; exact ⟨_, rfl, h⟩
  | _, _, i + 1, w, .cons h r, e => by
    obtain ⟨v, h1, h2⟩ := Reps.getV (i := i) (v := w) r (by simpa using e)
    exact ⟨v, by simpa using h1, h2⟩
theorem Reps.append : ∀ {xs ys ws us}, Reps K Z H xs ws → Reps K Z H ys us → Reps K Z H (xs ++ ys) (ws ++ us)
  | _, _, _, _, .nil, s => s
  | _, _, _, _, .cons r t, s => .cons r (Reps.append t s)
theorem Reps.one {v : V} {w : W} (h : Rep K Z H v w) : Reps K Z H [v] [w] := .cons h .nil
theorem Reps.take (n : Nat) : ∀ {xs ws}, Reps K Z H xs ws → Reps K Z H (xs.take n) (ws.take n) := by
  induction n with
  | zero => intro xs ws _; simp only [List.take_zero]; exact .nil
  | succ n ih => intro xs ws h; cases h with
    | nil => exact .nil
    | cons r t => exact .cons r (ih t)
theorem Reps.drop (n : Nat) : ∀ {xs ws}, Reps K Z H xs ws → Reps K Z H (xs.drop n) (ws.drop n) := by
  induction n with
  | zero => intro xs ws h; exact h
  | succ n ih => intro xs ws h; cases h with
    | nil => exact .nil
    | cons r t => exact ih t
theorem Reps.set {v : V} {w : W} (r : Rep K Z H v w) : ∀ {xs ws} (i : Nat), Reps K Z H xs ws → Reps K Z H (xs.set i v) (ws.set i w)
  | _, _, _, .nil => .nil
  | _, _, 0, .cons _ t => .cons r t
  | _, _, i + 1, .cons q t => .cons q (Reps.set r i t)
/-- a list of flat things -/
theorem Reps.map {α : Type} (f : α → V) (g : α → W) (h : ∀ a, Rep K Z H (f a) (g a)) : ∀ l : List α, Reps K Z H (l.map f) (l.map g)
  | [] => .nil
  | a :: l => .cons (h a) (Reps.map f g h l)
theorem Reps.ints_of : ∀ {ns : List Int} {xs}, Reps K Z H xs (ns.map W.int) → xs = ns.map V.int
  | [], _, h => by cases h; rfl
  | n :: ns, _, h => by cases h with | cons r t => cases r; rw [Reps.ints_of t, List.map_cons]
end

/-! ### slots read and written -/
def at' : S → Nat → Sl
  | [], _ => .un
  | s :: _, 0 => s
  | _ :: l, n + 1 => at' l n
def put : S → Nat → Sl → S
  | [], _, _ => []
  | _ :: l, 0, x => x :: l
  | s :: l, n + 1, x => s :: put l n x
def T.fzs : List T → Option (List W)
  | [] => some []
  | .fz w :: ts => (T.fzs ts).map (w :: ·)
  | _ :: _ => none
def T.pk : T → Option W
  | .fz w => some w
  | .lst ws => some (.lst ws)
  | .dK k => some (.dK k)
  | .dT k => some (.dT k)
  | .ins _ _ => none
  | .wo w _ => some w
  | .dR _ => none
  | .dd _ _ => none
def Sl.pk : Sl → Option W
  | .un => none
  | .lo t => t.pk
  | .mp _ t => t.pk
  | .fr _ _ _ _ _ _ => none
def R.val (st : S) : R → Option W
  | .w x => some x
  | .pk i => (at' st i).pk
section
variable {K : PySem.W.Frag} {Z : Zx} {H0 H F : Hp} {pv : List V}
theorem Sts.length : ∀ {σ st G}, Sts K Z H0 pv σ st G → σ.length = st.length
  | _, _, _, .nil => rfl
  | _, _, _, .un h => by rw [List.length_cons, List.length_cons, Sts.length h]
  | _, _, _, .lo _ h => by rw [List.length_cons, List.length_cons, Sts.length h]
  | _, _, _, .mp _ _ h => by rw [List.length_cons, List.length_cons, Sts.length h]
  | _, _, _, .fr _ _ h => by rw [List.length_cons, List.length_cons, Sts.length h]
theorem Sts.cast {σ st G G'} (h : Sts K Z H0 pv σ st G) (e : G = G') : Sts K Z H0 pv σ st G' := e ▸ h
/-- a slot's thing, taken out of the footprint and put back -/
theorem Sts.lo_at : ∀ {σ st G} {i : Nat} {t : T}, Sts K Z H0 pv σ st G → at' st i = .lo t →
    ∃ v G1 Ga Gb, σ[i]? = some (some v) ∧ RepT K Z H0 v t G1 ∧ G = Ga ++ G1 ++ Gb ∧
      (∀ H0' v' t' G1', Ex H0 H0' → RepT K Z H0' v' t' G1' → Sts K Z H0' pv (σ.set i (some v')) (put st i (.lo t')) (Ga ++ G1' ++ Gb)) ∧ Sts K Z H0 pv σ (put st i .un) (Ga ++ Gb)
  | _, _, _, i, _, .nil, e => by cases e
  | _, _, _, 0, _, .un _, e => by cases e
  | _, _, _, 0, _, .mp _ _ _, e => by cases e
  | _, _, _, 0, _, .fr _ _ _, e => by cases e
  | _, _, _, 0, _, .lo (G1 := G1) (G2 := G2) r h, e => by
    cases e
    exact ⟨_, G1, [], G2, rfl, r, rfl, fun H0' v' t' G1' ex r' => .lo r' (h.mono ex), .un h⟩
  | _, _, _, i + 1, _, .un h, e => by
    obtain ⟨v, G1, Ga, Gb, h1, h2, h3, h4, h5⟩ := Sts.lo_at (i := i) h e
    exact ⟨v, G1, Ga, Gb, h1, h2, h3, fun H0' v' t' G1' ex r' => .un (h4 H0' v' t' G1' ex r'), .un h5⟩
  | _, _, _, i + 1, _, .lo (G1 := Gx) r h, e => by
    obtain ⟨v, G1, Ga, Gb, h1, h2, h3, h4, h5⟩ := Sts.lo_at (i := i) h e
    refine ⟨v, G1, Gx ++ Ga, Gb, h1, h2, by rw [h3]; simp only [List.append_assoc], fun H0' v' t' G1' ex r' => ?_, ?_⟩
    · exact Sts.cast (Sts.lo (r.mono ex) (h4 H0' v' t' G1' ex r')) (by simp only [List.append_assoc])
    · exact Sts.cast (Sts.lo r h5) (by simp only [List.append_assoc])
  | _, _, _, i + 1, _, .mp (G1 := Gx) p r h, e => by
    obtain ⟨v, G1, Ga, Gb, h1, h2, h3, h4, h5⟩ := Sts.lo_at (i := i) h e
    refine ⟨v, G1, Gx ++ Ga, Gb, h1, h2, by rw [h3]; simp only [List.append_assoc], fun H0' v' t' G1' ex r' => ?_, ?_⟩
    · exact Sts.cast (Sts.mp p (r.mono ex) (h4 H0' v' t' G1' ex r')) (by simp only [List.append_assoc])
    · exact Sts.cast (Sts.mp p r h5) (by simp only [List.append_assoc])
  | _, _, _, i + 1, _, .fr (G1 := Gx) z r h, e => by
    obtain ⟨v, G1, Ga, Gb, h1, h2, h3, h4, h5⟩ := Sts.lo_at (i := i) h e
    refine ⟨v, G1, Gx ++ Ga, Gb, h1, h2, by rw [h3]; simp only [List.append_assoc], fun H0' v' t' G1' ex r' => ?_, ?_⟩
    · exact Sts.cast (Sts.fr (ex _ _ z) (r.mono ex) (h4 H0' v' t' G1' ex r')) (by simp only [List.append_assoc])
    · exact Sts.cast (Sts.fr z r h5) (by simp only [List.append_assoc])
theorem Sts.mp_at : ∀ {σ st G} {i k : Nat} {t : T}, Sts K Z H0 pv σ st G → at' st i = .mp k t →
    ∃ v G1 Ga Gb, σ[i]? = some (some v) ∧ pv[k]? = some v ∧ RepT K Z H0 v t G1 ∧ G = Ga ++ G1 ++ Gb ∧
      (∀ H0' t' G1', Ex H0 H0' → RepT K Z H0' v t' G1' → Sts K Z H0' pv σ (put st i (.mp k t')) (Ga ++ G1' ++ Gb))
  | _, _, _, i, _, _, .nil, e => by cases e
  | _, _, _, 0, _, _, .un _, e => by cases e
  | _, _, _, 0, _, _, .lo _ _, e => by cases e
  | _, _, _, 0, _, _, .fr _ _ _, e => by cases e
  | _, _, _, 0, _, _, .mp (G1 := G1) (G2 := G2) p r h, e => by
    cases e
    exact ⟨_, G1, [], G2, rfl, p, r, rfl, fun H0' t' G1' ex r' => .mp p r' (h.mono ex)⟩
  | _, _, _, i + 1, _, _, .un h, e => by
    obtain ⟨v, G1, Ga, Gb, h1, hp, h2, h3, h4⟩ := Sts.mp_at (i := i) h e
    exact ⟨v, G1, Ga, Gb, h1, hp, h2, h3, fun H0' t' G1' ex r' => .un (h4 H0' t' G1' ex r')⟩
  | _, _, _, i + 1, _, _, .lo (G1 := Gx) r h, e => by
    obtain ⟨v, G1, Ga, Gb, h1, hp, h2, h3, h4⟩ := Sts.mp_at (i := i) h e
    refine ⟨v, G1, Gx ++ Ga, Gb, h1, hp, h2, by rw [h3]; simp only [List.append_assoc], fun H0' t' G1' ex r' => ?_⟩
    exact Sts.cast (Sts.lo (r.mono ex) (h4 H0' t' G1' ex r')) (by simp only [List.append_assoc])
  | _, _, _, i + 1, _, _, .mp (G1 := Gx) p r h, e => by
    obtain ⟨v, G1, Ga, Gb, h1, hp, h2, h3, h4⟩ := Sts.mp_at (i := i) h e
    refine ⟨v, G1, Gx ++ Ga, Gb, h1, hp, h2, by rw [h3]; simp only [List.append_assoc], fun H0' t' G1' ex r' => ?_⟩
    exact Sts.cast (Sts.mp p (r.mono ex) (h4 H0' t' G1' ex r')) (by simp only [List.append_assoc])
  | _, _, _, i + 1, _, _, .fr (G1 := Gx) z r h, e => by
    obtain ⟨v, G1, Ga, Gb, h1, hp, h2, h3, h4⟩ := Sts.mp_at (i := i) h e
    refine ⟨v, G1, Gx ++ Ga, Gb, h1, hp, h2, by rw [h3]; simp only [List.append_assoc], fun H0' t' G1' ex r' => ?_⟩
    exact Sts.cast (Sts.fr (ex _ _ z) (r.mono ex) (h4 H0' t' G1' ex r')) (by simp only [List.append_assoc])
/-- a caller that waits, taken out of the footprint and put back -/
theorem Sts.fr_at : ∀ {σ st G} {i : Nat} {f c : Addr} {q : Str} {σ' : L2.St} {pv' : List V} {st' : S}, Sts K Z H0 pv σ st G → at' st i = .fr f c q σ' pv' st' →
    ∃ G1 Ga Gb, σ[i]? = some (some (.ref f)) ∧ H0 c = some (LamX.CodeO c q) ∧ Sts K Z H0 pv' σ' st' G1 ∧ G = Ga ++ G1 ++ Gb ∧
      (∀ H0' st2 G1', Ex H0 H0' → Sts K Z H0' pv' σ' st2 G1' → Sts K Z H0' pv σ (put st i (.fr f c q σ' pv' st2)) (Ga ++ G1' ++ Gb))
  | _, _, _, i, _, _, _, _, _, _, .nil, e => by cases e
  | _, _, _, 0, _, _, _, _, _, _, .un _, e => by cases e
  | _, _, _, 0, _, _, _, _, _, _, .lo _ _, e => by cases e
  | _, _, _, 0, _, _, _, _, _, _, .mp _ _ _, e => by cases e
  | _, _, _, 0, _, _, _, _, _, _, .fr (G1 := G1) (G2 := G2) z r h, e => by
    cases e
    exact ⟨G1, [], G2, rfl, z, r, rfl, fun H0' st2 G1' ex r' => .fr (ex _ _ z) r' (h.mono ex)⟩
  | _, _, _, i + 1, _, _, _, _, _, _, .un h, e => by
    obtain ⟨G1, Ga, Gb, hs, hc, h1, h3, h4⟩ := Sts.fr_at (i := i) h e
    exact ⟨G1, Ga, Gb, hs, hc, h1, h3, fun H0' t' G1' ex r' => .un (h4 H0' t' G1' ex r')⟩
  | _, _, _, i + 1, _, _, _, _, _, _, .lo (G1 := Gx) r h, e => by
    obtain ⟨G1, Ga, Gb, hs, hc, h1, h3, h4⟩ := Sts.fr_at (i := i) h e
    refine ⟨G1, Gx ++ Ga, Gb, hs, hc, h1, by rw [h3]; simp only [List.append_assoc], fun H0' t' G1' ex r' => ?_⟩
    exact Sts.cast (Sts.lo (r.mono ex) (h4 H0' t' G1' ex r')) (by simp only [List.append_assoc])
  | _, _, _, i + 1, _, _, _, _, _, _, .mp (G1 := Gx) p r h, e => by
    obtain ⟨G1, Ga, Gb, hs, hc, h1, h3, h4⟩ := Sts.fr_at (i := i) h e
    refine ⟨G1, Gx ++ Ga, Gb, hs, hc, h1, by rw [h3]; simp only [List.append_assoc], fun H0' t' G1' ex r' => ?_⟩
    exact Sts.cast (Sts.mp p (r.mono ex) (h4 H0' t' G1' ex r')) (by simp only [List.append_assoc])
  | _, _, _, i + 1, _, _, _, _, _, _, .fr (G1 := Gx) z r h, e => by
    obtain ⟨G1, Ga, Gb, hs, hc, h1, h3, h4⟩ := Sts.fr_at (i := i) h e
    refine ⟨G1, Gx ++ Ga, Gb, hs, hc, h1, by rw [h3]; simp only [List.append_assoc], fun H0' t' G1' ex r' => ?_⟩
    exact Sts.cast (Sts.fr (ex _ _ z) (r.mono ex) (h4 H0' t' G1' ex r')) (by simp only [List.append_assoc])
/-- a slot that isn't a handed-in owned one is stored anew -/
theorem Sts.store : ∀ {σ st G} (i : Nat), Sts K Z H0 pv σ st G → i < st.length → (∀ k t, at' st i ≠ .mp k t) →
    ∃ Ga Gx Gb, G = Ga ++ Gx ++ Gb ∧ ∀ H0' v t Gv, Ex H0 H0' → RepT K Z H0' v t Gv → Sts K Z H0' pv (σ.set i (some v)) (put st i (.lo t)) (Ga ++ Gv ++ Gb)
  | _, _, _, i, .nil, hi, e => absurd hi (Nat.not_lt_zero _)
  | _, _, _, 0, .un (G := G) h, _, e => ⟨[], [], G, rfl, fun H0' v t Gv ex r => .lo r (h.mono ex)⟩
  | _, _, _, 0, .lo (G1 := G1) (G2 := G2) _ h, _, e => ⟨[], G1, G2, rfl, fun H0' v t Gv ex r => .lo r (h.mono ex)⟩
  | _, _, _, 0, .mp _ _ h, _, e => absurd rfl (e _ _)
  | _, _, _, 0, .fr (G1 := G1) (G2 := G2) _ _ h, _, e => ⟨[], G1, G2, rfl, fun H0' v t Gv ex r => .lo r (h.mono ex)⟩
  | _, _, _, i + 1, .un h, hi, e => by
    obtain ⟨Ga, Gx, Gb, h1, h2⟩ := Sts.store i h (Nat.lt_of_succ_lt_succ hi) e
    exact ⟨Ga, Gx, Gb, h1, fun H0' v t Gv ex r => .un (h2 H0' v t Gv ex r)⟩
  | _, _, _, i + 1, .lo (G1 := Gy) q h, hi, e => by
    obtain ⟨Ga, Gx, Gb, h1, h2⟩ := Sts.store i h (Nat.lt_of_succ_lt_succ hi) e
    refine ⟨Gy ++ Ga, Gx, Gb, by rw [h1]; simp only [List.append_assoc], fun H0' v t Gv ex r => ?_⟩
    exact Sts.cast (Sts.lo (q.mono ex) (h2 H0' v t Gv ex r)) (by simp only [List.append_assoc])
  | _, _, _, i + 1, .mp (G1 := Gy) p q h, hi, e => by
    obtain ⟨Ga, Gx, Gb, h1, h2⟩ := Sts.store i h (Nat.lt_of_succ_lt_succ hi) e
    refine ⟨Gy ++ Ga, Gx, Gb, by rw [h1]; simp only [List.append_assoc], fun H0' v t Gv ex r => ?_⟩
    exact Sts.cast (Sts.mp p (q.mono ex) (h2 H0' v t Gv ex r)) (by simp only [List.append_assoc])
  | _, _, _, i + 1, .fr (G1 := Gy) z q h, hi, e => by
    obtain ⟨Ga, Gx, Gb, h1, h2⟩ := Sts.store i h (Nat.lt_of_succ_lt_succ hi) e
    refine ⟨Gy ++ Ga, Gx, Gb, by rw [h1]; simp only [List.append_assoc], fun H0' v t Gv ex r => ?_⟩
    exact Sts.cast (Sts.fr (ex _ _ z) (q.mono ex) (h2 H0' v t Gv ex r)) (by simp only [List.append_assoc])
theorem RepT.peek {v : V} {t : T} {G : Fp} {w : W} (r : RepT K Z H0 v t G) (ow : ∀ q ∈ G, H q.1 = some q.2) (e : t.pk = some w) : RepP K Z H0 H v w := by
  cases r with
  | fz r => cases e; exact .fz r
  | lst r => cases e; exact .lst (ow (_, _) (List.mem_singleton.mpr rfl)) r
  | dK r => cases e; exact .dK (ow (_, _) (List.mem_singleton.mpr rfl)) r
  | dT r => cases e; exact .dT (ow (_, _) (List.mem_singleton.mpr rfl)) r
  | ins _ n r => cases e
  | wo r _ => cases e; exact .fz r
  | dR _ => cases e
  | dd _ => cases e
/-- an evaluated thing may be read now -/
theorem RepR.peek {σ : L2.St} {st : S} {G : Fp} {v : V} {r : R} {w : W} (h : RepR K Z H0 σ v r) (ss : Sts K Z H0 pv σ st G) (wd : Wd H0 F G H) (e : r.val st = some w) : RepP K Z H0 H v w := by
  cases h with
  | w h => cases e; exact .fz h
  | @pk i h =>
    have e : (at' st i).pk = some w := e
    cases q : at' st i with
    | un => rw [q] at e; cases e
    | lo t =>
      rw [q] at e
      obtain ⟨v', G1, Ga, Gb, h1, h2, h3, _⟩ := ss.lo_at q
      rw [h] at h1; cases h1
      exact h2.peek (fun p hp => wd.ow p (by rw [h3]; simp [hp])) e
    | mp k t =>
      rw [q] at e
      obtain ⟨v', G1, Ga, Gb, h1, _, h2, h3, _⟩ := ss.mp_at q
      rw [h] at h1; cases h1
      exact h2.peek (fun p hp => wd.ow p (by rw [h3]; simp [hp])) e
    | fr _ _ _ _ _ _ => rw [q] at e; cases e
theorem RepP.mono {H0' H' : Hp} {v : V} {w : W} (e : Ex H0 H0') (e' : Ex H H') (h : RepP K Z H0 H v w) : RepP K Z H0' H' v w := by
  cases h with
  | fz h => exact .fz (h.mono e)
  | lst h r => exact .lst (e' _ _ h) (r.mono e)
  | dK h r => exact .dK (e' _ _ h) (r.mono e)
  | dT h r => exact .dT (e' _ _ h) (r.mono e)
  | ins z h n r => exact .ins z (e' _ _ h) n (r.mono e)
end

/-! ### worlds that grow -/
/-- new frozen things stand at places that were free -/
structure Gr (H0 H H0' H' : Hp) : Prop where
  e0 : Ex H0 H0'
  e : Ex H H'
  sub : Ex H0' H'
  new : ∀ a o, H0' a = some o → H0 a = none → H a = none
theorem Gr.refl {H0 H : Hp} (e : Ex H0 H) : Gr H0 H H0 H := ⟨Ex.refl _, Ex.refl _, e, fun a o h n => by rw [n] at h; cases h⟩
theorem Gr.one {H0 H : Hp} {p : Addr} {o : HO} (e : Ex H0 H) (h : H p = none) : Gr H0 H (upd H0 p o) (upd H p o) := by
  have h0 : H0 p = none := by
    cases q : H0 p with
    | none => rfl
    | some u => rw [e p u q] at h; cases h
  refine ⟨.new h0, .new h, fun a u q => ?_, fun a u q n => ?_⟩
  · by_cases z : a = p
    · subst z; rw [upd_same] at q ⊢; exact q
    · rw [upd_ne z] at q ⊢; exact e a u q
  · by_cases z : a = p
    · subst z; exact h
    · rw [upd_ne z, n] at q; cases q
theorem Wd.grow {H0 F H H0' H' : Hp} {G : Fp} (wd : Wd H0 F G H) (g : Gr H0 H H0' H') : Wd H0' F G H' where
  ex := g.sub
  fr := fun a o h n => g.e _ _ (wd.fr a o h n)
  tb := fun a o q h n => (wd.tb a o q h n).up g.e0 (g.e a)
  tn := wd.tn
  ow := fun q hq => g.e _ _ (wd.ow q hq)
  nd := wd.nd
  d0 := fun q hq => by
    cases z : H0' q.1 with
    | none => rfl
    | some u => have := g.new _ _ z (wd.d0 q hq); rw [wd.ow q hq] at this; cases this
  dF := wd.dF
  d0F := fun a o h => by
    cases z : H0 a with
    | some u => exact wd.d0F a u z
    | none =>
      have n := g.new a o h z
      exact wd.fnone n
/-- a part of the footprint forgotten -/
theorem Wd.less {H0 F H : Hp} {Ga Gx Gb : Fp} (wd : Wd H0 F (Ga ++ Gx ++ Gb) H) : Wd H0 F (Ga ++ Gb) H := by
  have sub : ∀ q ∈ Ga ++ Gb, q ∈ Ga ++ Gx ++ Gb := fun q hq => by
    rcases List.mem_append.mp hq with h | h
    · simp [h]
    · simp [h]
  refine ⟨wd.ex, wd.fr, fun q hq => wd.ow q (sub q hq), ?_, fun q hq => wd.d0 q (sub q hq), fun q hq => wd.dF q (sub q hq), wd.d0F, wd.tb, fun q hq => wd.tn q (sub q hq)⟩
  have s : (Ga ++ Gb).Sublist (Ga ++ Gx ++ Gb) := by
    rw [List.append_assoc]
    exact List.Sublist.append (List.Sublist.refl _) (List.sublist_append_right _ _)
  exact wd.nd.sublist (s.map _)
/-- a new own object -/
theorem Wd.own {H0 F H : Hp} {Ga Gb : Fp} {p : Addr} {o : HO} (wd : Wd H0 F (Ga ++ Gb) H) (hp : H p = none) (ho : tabQ o = none := by rfl) : Wd H0 F (Ga ++ [(p, o)] ++ Gb) (upd H p o) := by
  have ne : ∀ q ∈ Ga ++ Gb, q.1 ≠ p := fun q hq z => by have := wd.ow q hq; rw [z, hp] at this; cases this
  have mem : ∀ q ∈ Ga ++ [(p, o)] ++ Gb, q = (p, o) ∨ q ∈ Ga ++ Gb := fun q hq => by
    simp only [List.mem_append, List.mem_singleton] at hq ⊢
    rcases hq with (h | h) | h
    · exact .inr (.inl h)
    · exact .inl h
    · exact .inr (.inr h)
  have f0 : H0 p = none := by
    cases q : H0 p with
    | none => rfl
    | some u => rw [wd.ex p u q] at hp; cases hp
  have fF : F p = none := wd.fnone hp
  have nw : Ex H (upd H p o) := .new hp
  refine ⟨wd.ex.trans nw, fun a u h n => nw a u (wd.fr a u h n), fun q hq => ?_, ?_, fun q hq => ?_, fun q hq => ?_, wd.d0F, fun a u q h n => (wd.tb a u q h n).up (Ex.refl _) (nw a), fun q hq => ?_⟩
  · rcases mem q hq with rfl | h
    · exact upd_same
    · rw [upd_ne (ne q h)]; exact wd.ow q h
  · have nd := wd.nd
    rw [List.map_append] at nd
    rw [List.map_append, List.map_append, List.append_assoc, List.map_singleton]
    have perm : (Ga.map (·.1) ++ ([p] ++ Gb.map (·.1))).Perm (p :: (Ga.map (·.1) ++ Gb.map (·.1))) := List.perm_middle
    refine (perm.nodup_iff).mpr (List.nodup_cons.mpr ⟨fun z => ?_, nd⟩)
    rw [← List.map_append] at z
    obtain ⟨q, hq, e⟩ := List.mem_map.mp z
    exact ne q hq e
  · rcases mem q hq with rfl | h
    · exact f0
    · exact wd.d0 q h
  · rcases mem q hq with rfl | h
    · exact fF
    · exact wd.dF q h
  · rcases mem q hq with rfl | h
    · exact ho
    · exact wd.tn q h
/-- an own object changed -/
theorem Wd.write {H0 F H : Hp} {Ga Gb : Fp} {p : Addr} {o o' : HO} (wd : Wd H0 F (Ga ++ [(p, o)] ++ Gb) H) (ho : tabQ o' = none := by rfl) : Wd H0 F (Ga ++ [(p, o')] ++ Gb) (upd H p o') := by
  have key : (Ga ++ [(p, o')] ++ Gb).map (·.1) = (Ga ++ [(p, o)] ++ Gb).map (·.1) := by simp
  have hp : H p = some o := wd.ow (p, o) (by simp)
  have h0 : H0 p = none := wd.d0 (p, o) (by simp)
  have hF : F p = none := wd.dF (p, o) (by simp)
  have nd := wd.nd
  have ne : ∀ q ∈ Ga ++ Gb, q.1 ≠ p := fun q hq z => by
    rw [List.map_append, List.map_append, List.append_assoc, List.map_singleton] at nd
    have perm : (Ga.map (·.1) ++ ([p] ++ Gb.map (·.1))).Perm (p :: (Ga.map (·.1) ++ Gb.map (·.1))) := List.perm_middle
    have := (List.nodup_cons.mp (perm.nodup_iff.mp nd)).1
    rw [← List.map_append] at this
    exact this (List.mem_map.mpr ⟨q, hq, z⟩)
  have mem : ∀ q ∈ Ga ++ [(p, o')] ++ Gb, q = (p, o') ∨ q ∈ Ga ++ Gb := fun q hq => by
    simp only [List.mem_append, List.mem_singleton] at hq ⊢
    rcases hq with (h | h) | h
    · exact .inr (.inl h)
    · exact .inl h
    · exact .inr (.inr h)
  have sub : ∀ q ∈ Ga ++ Gb, q ∈ Ga ++ [(p, o)] ++ Gb := fun q hq => by
    rcases List.mem_append.mp hq with h | h
    · simp [h]
    · simp [h]
  have neF : ∀ a u, F a = some u → a ≠ p := fun a u e z => by rw [z, hF] at e; cases e
  refine ⟨fun a u e => ?_, fun a u e n => ?_, fun q hq => ?_, by rw [key]; exact nd, fun q hq => ?_, fun q hq => ?_, wd.d0F, fun a u q e n => (wd.tb a u q e n).up (Ex.refl _) fun v hv => by rw [upd_ne (neF a u e)]; exact hv, fun q hq => ?_⟩
  · rw [upd_ne (fun z => by rw [z, h0] at e; cases e)]; exact wd.ex a u e
  · rw [upd_ne (neF a u e)]; exact wd.fr a u e n
  · rcases mem q hq with rfl | h
    · exact upd_same
    · rw [upd_ne (ne q h)]; exact wd.ow q (sub q h)
  · rcases mem q hq with rfl | h
    · exact h0
    · exact wd.d0 q (sub q h)
  · rcases mem q hq with rfl | h
    · exact hF
    · exact wd.dF q (sub q h)
  · rcases mem q hq with rfl | h
    · exact ho
    · exact wd.tn q (sub q h)

/-! ### readings on data -/
abbrev KX := XW → S → Prop
abbrev DE := S → (R → S → Prop) → KX → Prop
structure DEnds where
  nx : S → Prop
  rt : T → S → Prop
  bk : S → Prop := fun _ => False
  ct : S → Prop := fun _ => False
  ex : KX := fun _ _ => False
abbrev DS := DEnds → S → Prop

/-- what is wished of an error, the slots told -/
abbrev XS := Value → Option Addr → L2.St → Hp → Prop
abbrev E0s : XS := fun _ _ _ _ => False
section
variable (K : PySem.W.Frag) (Z : Zx) (E : XS)
def Acc (F : Hp) (pv : List V) (σ : L2.St) (H0 : Hp) (k : R → S → Prop) (Q : VK) : Prop :=
  ∀ H0' G' H' st' v r, Ex H0 H0' → Wd H0' F G' H' → Sts K Z H0' pv σ st' G' → RepR K Z H0' σ v r → k r st' → Q v H'
def TabF (F : Hp) : Prop := ∀ p ∈ Z.tabs, F p.1 = some (tabO p.2)
structure AccX (F : Hp) (pv : List V) (H0 : Hp) (k : KX) : Prop where
  tabs : TabF Z F
  run : ∀ H0' G' H' σ' st' cls dx x, Ex H0 H0' → Wd H0' F G' H' → Sts K Z H0' pv σ' st' G' → RepX K Z H0' H' cls dx x → k x st' → E cls dx σ' H'
/-- the same within an expression: the variables stay -/
structure AccXe (F : Hp) (pv : List V) (σ : L2.St) (H0 : Hp) (k : KX) : Prop where
  tabs : TabF Z F
  run : ∀ H0' G' H' st' cls dx x, Ex H0 H0' → Wd H0' F G' H' → Sts K Z H0' pv σ st' G' → RepX K Z H0' H' cls dx x → k x st' → E cls dx σ H'
def tE (d : DE) : TE := fun σ H Q => ∃ H0 F G pv st k kx, Wd H0 F G H ∧ Sts K Z H0 pv σ st G ∧ d st k kx ∧ Acc K Z F pv σ H0 k Q ∧ AccXe K Z E F pv σ H0 kx
def AccS (F : Hp) (pv : List V) (H0 : Hp) (k : S → Prop) (Q : L2.St → Hp → Prop) : Prop :=
  ∀ H0' G' H' σ' st', Ex H0 H0' → Wd H0' F G' H' → Sts K Z H0' pv σ' st' G' → k st' → Q σ' H'
def AccR (F : Hp) (pv : List V) (H0 : Hp) (k : T → S → Prop) (Q : VK) : Prop :=
  ∀ H0' Gv G' H' σ' st' v t, Ex H0 H0' → Wd H0' F (Gv ++ G') H' → RepT K Z H0' v t Gv → Sts K Z H0' pv σ' st' G' → k t st' → Q v H'
structure AccD (F : Hp) (pv : List V) (H0 : Hp) (DD : DEnds) (D : Ends) : Prop where
  nx : AccS K Z F pv H0 DD.nx D.nx
  rt : AccR K Z F pv H0 DD.rt D.rt
  bk : AccS K Z F pv H0 DD.bk D.bk
  ct : AccS K Z F pv H0 DD.ct D.ct
  ex : AccX K Z E F pv H0 DD.ex
def tS (d : DS) : TS := fun D σ H => ∃ H0 F G pv st DD, Wd H0 F G H ∧ Sts K Z H0 pv σ st G ∧ d DD st ∧ AccD K Z E F pv H0 DD D
end
section
variable {K : PySem.W.Frag} {Z : Zx} {E : XS} {F H0 H0' : Hp} {pv : List V} {σ : L2.St}
theorem Acc.up {k : R → S → Prop} {Q : VK} (h : Acc K Z F pv σ H0 k Q) (e : Ex H0 H0') : Acc K Z F pv σ H0' k Q := fun _ _ _ _ _ _ e' => h _ _ _ _ _ _ (e.trans e')
instance {k : KX} : CoeFun (AccX K Z E F pv H0 k) (fun _ => ∀ H0' G' H' σ' st' cls dx x, Ex H0 H0' → Wd H0' F G' H' → Sts K Z H0' pv σ' st' G' → RepX K Z H0' H' cls dx x → k x st' → E cls dx σ' H') := ⟨AccX.run⟩
theorem AccX.up {k : KX} (h : AccX K Z E F pv H0 k) (e : Ex H0 H0') : AccX K Z E F pv H0' k := ⟨h.tabs, fun _ _ _ _ _ _ _ _ e' => h.run _ _ _ _ _ _ _ _ (e.trans e')⟩
theorem TabF.upd {p : Addr} {o : HO} (t : TabF Z F) (h : F p = none) : TabF Z (upd F p o) := fun q hq => by
  rw [upd_ne (fun e => by have := t q hq; rw [e, h] at this; cases this)]
  exact t q hq
theorem AccX.noxU {k : KX} {p : Addr} {o : HO} (h : AccX K Z E F pv H0 k) (hF : F p = none) : ∀ {H1 : Hp}, AccX K Z E0s (upd F p o) pv H1 (fun _ _ => False) := ⟨h.tabs.upd hF, fun _ _ _ _ _ _ _ _ _ _ _ _ z => z.elim⟩
theorem AccX.at {k : KX} (h : AccX K Z E F pv H0 k) : AccXe K Z E F pv σ H0 k := ⟨h.tabs, fun _ _ _ _ _ _ _ => h.run _ _ _ _ _ _ _ _⟩
instance {k : KX} : CoeFun (AccXe K Z E F pv σ H0 k) (fun _ => ∀ H0' G' H' st' cls dx x, Ex H0 H0' → Wd H0' F G' H' → Sts K Z H0' pv σ st' G' → RepX K Z H0' H' cls dx x → k x st' → E cls dx σ H') := ⟨AccXe.run⟩
theorem AccXe.up {k : KX} (h : AccXe K Z E F pv σ H0 k) (e : Ex H0 H0') : AccXe K Z E F pv σ H0' k := ⟨h.tabs, fun _ _ _ _ _ _ _ e' => h.run _ _ _ _ _ _ _ (e.trans e')⟩
theorem AccXe.noxU {k : KX} {p : Addr} {o : HO} (h : AccXe K Z E F pv σ H0 k) (hF : F p = none) : ∀ {σ' : L2.St} {H1 : Hp}, AccXe K Z E0s (upd F p o) pv σ' H1 (fun _ _ => False) := ⟨h.tabs.upd hF, fun _ _ _ _ _ _ _ _ _ _ _ z => z.elim⟩
theorem AccXe.nox {k : KX} (h : AccXe K Z E F pv σ H0 k) : ∀ {σ' : L2.St} {H1 : Hp}, AccXe K Z E0s F pv σ' H1 (fun _ _ => False) := ⟨h.tabs, fun _ _ _ _ _ _ _ _ _ _ _ z => z.elim⟩
theorem AccX.nox {k : KX} (h : AccX K Z E F pv H0 k) : ∀ {H1 : Hp}, AccX K Z E0s F pv H1 (fun _ _ => False) := ⟨h.tabs, fun _ _ _ _ _ _ _ _ _ _ _ _ z => z.elim⟩
theorem AccS.up {k : S → Prop} {Q : L2.St → Hp → Prop} (h : AccS K Z F pv H0 k Q) (e : Ex H0 H0') : AccS K Z F pv H0' k Q := fun _ _ _ _ _ e' => h _ _ _ _ _ (e.trans e')
theorem AccR.up {k : T → S → Prop} {Q : VK} (h : AccR K Z F pv H0 k Q) (e : Ex H0 H0') : AccR K Z F pv H0' k Q := fun _ _ _ _ _ _ _ _ e' => h _ _ _ _ _ _ _ _ (e.trans e')
theorem AccD.up {DD : DEnds} {D : Ends} (h : AccD K Z E F pv H0 DD D) (e : Ex H0 H0') : AccD K Z E F pv H0' DD D := ⟨h.nx.up e, h.rt.up e, h.bk.up e, h.ct.up e, h.ex.up e⟩
end

/-! ### the judgements -/
def PD (X : Cx) (Z : Zx) (E : XS) (e : Expr) (d : DE) : Prop := PE X e (tE X.K Z E d)
def PZ (X : Cx) (Z : Zx) (E : XS) (s : Stmt) (d : DS) : Prop := PS X s (tS X.K Z E d)
def PZs (X : Cx) (Z : Zx) (E : XS) (s : List Stmt) (d : DS) : Prop := PSs X s (tS X.K Z E d)
section
variable {X : Cx} {e : Expr} {es : List Expr} {s : Stmt} {ss : List Stmt}
theorem pe_weak {t t' : TE} (h : PE X e t) (k : ∀ σ H Q, t' σ H Q → t σ H Q) : PE X e t' := ⟨fun pins s σ H Q I q => h.run pins s σ H Q I (k σ H Q q)⟩
theorem pt_weak {t t' : TT} (h : PT X e t) (k : ∀ σ H Q, t' σ H Q → t σ H Q) : PT X e t' := ⟨fun pins s σ H Q I q => h.run pins s σ H Q I (k σ H Q q)⟩
theorem pa_weak {t t' : TA} (h : PA X es t) (k : ∀ σ H Q, t' σ H Q → t σ H Q) : PA X es t' := ⟨fun pos pins s σ H Q I q => h.run pos pins s σ H Q I (k σ H Q q)⟩
theorem ps_weak {t t' : TS} (h : PS X s t) (k : ∀ D σ H, t' D σ H → t D σ H) : PS X s t' := ⟨fun pins st σ H D I q => h.run pins st σ H D I (k D σ H q)⟩
theorem pss_weak {t t' : TS} (h : PSs X ss t) (k : ∀ D σ H, t' D σ H → t D σ H) : PSs X ss t' := ⟨fun pins st σ H D I q => h.run pins st σ H D I (k D σ H q)⟩
end
end Y
namespace Y
open PySem L2
open Evl (Ex)

/-! ### combinators -/
def dC (w : W) : DE := fun st k _ => k (.w w) st
def dVar (i : Nat) : DE := fun st k _ => match at' st i with
  | .un => False
  | .lo (.fz w) => k (.w w) st
  | .mp _ (.fz w) => k (.w w) st
  | .lo _ => k (.pk i) st
  | .mp _ _ => k (.pk i) st
  | .fr _ _ _ _ _ _ => False
abbrev O1 := W → (W → Prop) → Prop
abbrev O2 := W → W → (W → Prop) → Prop
abbrev OC := List W → (W → Prop) → Prop
def dUn (o : O1) (a : DE) : DE := fun st k x => a st (fun r st1 => match r.val st1 with
  | some w => o w fun w' => k (.w w') st1
  | none => False) x
def dOp (o : O2) (a b : DE) : DE := fun st k x => a st (fun r1 st1 => b st1 (fun r2 st2 => match r1.val st2, r2.val st2 with
  | some w1, some w2 => o w1 w2 fun w => k (.w w) st2
  | _, _ => False) x) x
abbrev DA := S → (List R → S → Prop) → KX → Prop
def aNil : DA := fun st k _ => k [] st
def aCons (d : DE) (a : DA) : DA := fun st k x => d st (fun r st1 => a st1 (fun rs st2 => k (r :: rs) st2) x) x
def vals (st : S) : List R → Option (List W)
  | [] => some []
  | r :: rs => match r.val st, vals st rs with
    | some w, some ws => some (w :: ws)
    | _, _ => none
def dCB (c : OC) (a : DA) : DE := fun st k x => a st (fun rs st1 => match vals st1 rs with
  | some ws => c ws fun w => k (.w w) st1
  | none => False) x
/-- frozen values alone -/
def frs' : List R → Option (List W)
  | [] => some []
  | .w w :: rs => (frs' rs).map (w :: ·)
  | .pk _ :: _ => none
abbrev DT := S → (Bool → S → Prop) → KX → Prop
def dTest (d : DE) : DT := fun st k x => d st (fun r st1 => match r with
  | .w (.bl b) => k b st1
  | _ => False) x
def dNot (t : DT) : DT := fun st k x => t st (fun b st1 => k (!b) st1) x
def dAnd (t u : DT) : DT := fun st k x => t st (fun b st1 => (b = true → u st1 k x) ∧ (b = false → k false st1)) x
def dOr (t u : DT) : DT := fun st k x => t st (fun b st1 => (b = true → k true st1) ∧ (b = false → u st1 k x)) x
def dIfE (t : DT) (a b : DE) : DE := fun st k x => t st (fun c st1 => (c = true → a st1 k x) ∧ (c = false → b st1 k x)) x
/-- a and b, a or b of truths, as values -/
def dAndV (a b : DE) : DE := fun st k x => a st (fun r st1 => match r with
  | .w (.bl c) => (c = true → b st1 k x) ∧ (c = false → k (.w (.bl false)) st1)
  | _ => False) x
/-! statements -/
def dNext : DS := fun D st => D.nx st
def dSeq (a b : DS) : DS := fun D st => a { D with nx := b D } st
def dExpr (d : DE) : DS := fun D st => d st (fun _ st1 => D.nx st1) D.ex
def dRet (d : DE) : DS := fun D st => d st (fun r st1 => match r with
  | .w w => D.rt (.fz w) st1
  | .pk i => match at' st1 i with
    | .lo t => D.rt t (put st1 i .un)
    | _ => False) D.ex
def dIf (c : DT) (a b : DS) : DS := fun D st => c st (fun t st1 => (t = true → a D st1) ∧ (t = false → b D st1)) D.ex
def sto (st : S) (i : Nat) (t : T) (k : S → Prop) : Prop := match at' st i with
  | .mp _ _ => False
  | _ => k (put st i (.lo t))
def dAsg (i : Nat) (d : DE) : DS := fun D st => d st (fun r st1 => match r with
  | .w w => sto st1 i (.fz w) D.nx
  | .pk _ => False) D.ex
/-- targets -/
abbrev DG := W → S → (S → Prop) → Prop
def gN (i : Nat) : DG := fun w st k => sto st i (.fz w) k
abbrev DGs := List W → S → (S → Prop) → Prop
def gsNil : DGs := fun ws st k => ws = [] ∧ k st
def gsCons (g : DG) (gs : DGs) : DGs := fun ws st k => match ws with
  | [] => False
  | w :: r => g w st fun st1 => gs r st1 k
def dAsgG (g : DG) (d : DE) : DS := fun D st => d st (fun r st1 => match r with
  | .w w => g w st1 D.nx
  | .pk _ => False) D.ex
/-- what a loop walks: its items -/
abbrev DI := S → (List W → S → Prop) → KX → Prop
/-- slots forgotten -/
def wipeS (st : S) : List Nat → S
  | [] => st
  | v :: vs => put (wipeS st vs) v .un
/-- fg: the names that are of one turn alone -/
def forW (fg : List Nat) (g : DG) (body : DS) (D : DEnds) : List W → S → Prop
  | [], st => D.nx (wipeS st fg)
  | w :: ws, st => g w (wipeS st fg) fun st1 => body { D with nx := forW fg g body D ws, ct := forW fg g body D ws, bk := fun st => D.nx (wipeS st fg) } st1
def dFor (fg : List Nat) (i : DI) (g : DG) (body : DS) : DS := fun D st => i st (fun ws st1 => forW fg g body D ws st1) D.ex
/-! ### rules on values -/
section
variable (K : PySem.W.Frag) (Z : Zx)
/-- what a by-values rule may hand on: a frozen value, in a world that grew -/
def Fin (H0 H : Hp) (k : W → Prop) (Q : VK) : Prop := ∀ H0' H' v w, Gr H0 H H0' H' → Rep K Z H0' v w → k w → Q v H'
def OpD (r : R2) (o : O2) : Prop := ∀ H0 H v1 w1 v2 w2 k Q, Ex H0 H → RepP K Z H0 H v1 w1 → RepP K Z H0 H v2 w2 → o w1 w2 k → Fin K Z H0 H k Q → r v1 v2 H Q
inductive RepPs (H0 H : Hp) : List V → List W → Prop
  | nil : RepPs H0 H [] []
  | cons {v w vs ws} : RepP K Z H0 H v w → RepPs H0 H vs ws → RepPs H0 H (v :: vs) (w :: ws)
def CallD (r : List V → Hp → VK → Prop) (c : OC) : Prop := ∀ H0 H vs ws k Q, Ex H0 H → RepPs K Z H0 H vs ws → c ws k → Fin K Z H0 H k Q → r vs H Q
end
section
variable {K : PySem.W.Frag} {Z : Zx} {H0 H : Hp}
theorem Fin.same {k : W → Prop} {Q : VK} (f : Fin K Z H0 H k Q) (e : Ex H0 H) {v : V} {w : W} (r : Rep K Z H0 v w) (h : k w) : Q v H := f _ _ _ _ (Gr.refl e) r h
theorem RepP.int_of {v : V} {i : Int} (h : RepP K Z H0 H v (.int i)) : v = .int i := by cases h with | fz h => cases h; rfl
theorem RepP.bl_of {v : V} {i : Bool} (h : RepP K Z H0 H v (.bl i)) : v = .bl i := by cases h with | fz h => cases h; rfl
theorem RepP.str_of {v : V} {i : Str} (h : RepP K Z H0 H v (.str i)) : v = .str i := by cases h with | fz h => cases h; rfl
theorem RepP.non_of {v : V} (h : RepP K Z H0 H v .non) : v = .non := by cases h with | fz h => cases h; rfl
theorem RepP.lst_of {v : V} {ws : List W} (h : RepP K Z H0 H v (.lst ws)) (e : Ex H0 H) : ∃ p xs, v = .ref p ∧ H p = some (.lst xs) ∧ Reps K Z H0 xs ws := by
  cases h with
  | fz h => cases h with | lst h r => exact ⟨_, _, rfl, e _ _ h, r⟩
  | lst h r => exact ⟨_, _, rfl, h, r⟩
theorem RepP.scr_of {v : V} {ns : List Int} (h : RepP K Z H0 H v (.scr ns)) (e : Ex H0 H) : ∃ p, v = .ref p ∧ SqL K H p (ns.map V.int) := by
  cases h with | fz h => cases h with | scr h => exact ⟨_, rfl, Evl.ex_l e h⟩
theorem RepP.tup_of {v : V} {ws : List W} (h : RepP K Z H0 H v (.tup ws)) (e : Ex H0 H) : ∃ p xs, v = .ref p ∧ SqT K H p xs ∧ Reps K Z H0 xs ws := by
  cases h with | fz h => cases h with | tup h r => exact ⟨_, _, rfl, Evl.ex_t e h, r⟩
end

/-! ### the rules -/
section
variable {X : Cx} {Z : Zx} {E : XS} {e a b : Expr} {da db : DE} {pos : Pos}
theorem pd_c {t : TE} {v : V} {w : W} (h : PE X e t) (ht : t = tC v) (r : ∀ H0, Rep X.K Z H0 v w) : PD X Z E e (dC w) := by
  subst ht
  refine pe_weak h fun σ H Q q => ?_
  obtain ⟨H0, F, G, pv, st, k, kx, wd, ss, hd, hk, hx⟩ := q
  exact hk _ _ _ _ _ _ (Ex.refl _) wd ss (.w (r _)) hd
theorem pd_int {i : Int} {j} : PD X Z E (.Constant (.int i) j pos) (dC (.int i)) := pd_c pe_int rfl fun _ => .int
theorem pd_bl {i : Bool} {j} : PD X Z E (.Constant (.bool i) j pos) (dC (.bl i)) := pd_c pe_bl rfl fun _ => .bl
theorem pd_non {j} : PD X Z E (.Constant .none j pos) (dC .non) := pd_c pe_non rfl fun _ => .non
theorem pd_str {i : Str} {j} : PD X Z E (.Constant (.str i) j pos) (dC (.str i)) := pd_c pe_str rfl fun _ => .str
theorem pd_var (i : Nat) {x : Str} (hN : X.N[i]? = some x := by rfl) (hv : Vis X.env.scope x := by first | exact Or.inl rfl | exact Or.inr (Or.inl rfl) | exact Or.inr (Or.inr rfl)) (hd : (x == ("__debug__" : Str)) = false := by decide)
    (hcd : (x == ("__classdict__" : Str)) = false := by decide) : PD X Z E (.Name x pos) (dVar i) := by
  refine pe_weak (pe_var hN hv hd hcd) fun σ H Q q => ?_
  obtain ⟨H0, F, G, pv, st, k, kx, wd, ss, hd, hk, hx⟩ := q
  unfold dVar at hd
  cases q : at' st i with
  | un => rw [q] at hd; exact hd.elim
  | lo t =>
    rw [q] at hd
    obtain ⟨v, G1, Ga, Gb, h1, h2, _⟩ := ss.lo_at q
    refine ⟨v, h1, ?_⟩
    cases t with
    | fz w => cases h2 with | fz h2 => exact hk _ _ _ _ _ _ (Ex.refl _) wd ss (.w h2) hd
    | lst w => exact hk _ _ _ _ _ _ (Ex.refl _) wd ss (.pk h1) hd
    | dK w => exact hk _ _ _ _ _ _ (Ex.refl _) wd ss (.pk h1) hd
    | dT w => exact hk _ _ _ _ _ _ (Ex.refl _) wd ss (.pk h1) hd
    | ins c w => exact hk _ _ _ _ _ _ (Ex.refl _) wd ss (.pk h1) hd
    | wo w _ => exact hk _ _ _ _ _ _ (Ex.refl _) wd ss (.pk h1) hd
    | dR w => exact hk _ _ _ _ _ _ (Ex.refl _) wd ss (.pk h1) hd
    | dd w => exact hk _ _ _ _ _ _ (Ex.refl _) wd ss (.pk h1) hd
  | fr _ _ _ _ _ _ => rw [q] at hd; exact hd.elim
  | mp n t =>
    rw [q] at hd
    obtain ⟨v, G1, Ga, Gb, h1, _, h2, _⟩ := ss.mp_at q
    refine ⟨v, h1, ?_⟩
    cases t with
    | fz w => cases h2 with | fz h2 => exact hk _ _ _ _ _ _ (Ex.refl _) wd ss (.w h2) hd
    | lst w => exact hk _ _ _ _ _ _ (Ex.refl _) wd ss (.pk h1) hd
    | dK w => exact hk _ _ _ _ _ _ (Ex.refl _) wd ss (.pk h1) hd
    | dT w => exact hk _ _ _ _ _ _ (Ex.refl _) wd ss (.pk h1) hd
    | ins c w => exact hk _ _ _ _ _ _ (Ex.refl _) wd ss (.pk h1) hd
    | wo w _ => exact hk _ _ _ _ _ _ (Ex.refl _) wd ss (.pk h1) hd
    | dR w => exact hk _ _ _ _ _ _ (Ex.refl _) wd ss (.pk h1) hd
    | dd w => exact hk _ _ _ _ _ _ (Ex.refl _) wd ss (.pk h1) hd
/-- one after another: the frame of most proofs -/
theorem tE_seq {K : PySem.W.Frag} {σ : L2.St} {H H0 F : Hp} {G : Fp} {pv : List V} {st : S} {kx : KX} {Q : VK} {k : R → S → Prop} (wd : Wd H0 F G H) (ss : Sts K Z H0 pv σ st G) (hx : AccXe K Z E F pv σ H0 kx) (hd : da st k kx)
    (h : ∀ H0' G' H' st' v r, Ex H0 H0' → Wd H0' F G' H' → Sts K Z H0' pv σ st' G' → RepR K Z H0' σ v r → k r st' → Q v H') : tE K Z E da σ H Q := ⟨H0, F, G, pv, st, k, kx, wd, ss, hd, h, hx⟩
theorem dop_ok {r : R2} {o : O2} {σ : L2.St} {H : Hp} {Q : VK} (ho : OpD X.K Z r o) (q : tE X.K Z E (dOp o da db) σ H Q) : tOp r (tE X.K Z E da) (tE X.K Z E db) σ H Q := by
  obtain ⟨H0, F, G, pv, st, k, kx, wd, ss, hd, hk, hx⟩ := q
  refine tE_seq wd ss hx hd fun H1 G1 H1' st1 v1 r1 e1 wd1 ss1 rr1 k1 => ?_
  refine tE_seq wd1 ss1 (hx.up e1) k1 fun H2 G2 H2' st2 v2 r2 e2 wd2 ss2 rr2 k2 => ?_
  have rr1' := rr1.mono e2
  cases q1 : r1.val st2 with
  | none => rw [q1] at k2; exact k2.elim
  | some w1 =>
    cases q2 : r2.val st2 with
    | none => rw [q1, q2] at k2; exact k2.elim
    | some w2 =>
      rw [q1, q2] at k2
      exact ho H2 H2' v1 w1 v2 w2 _ Q wd2.ex (rr1'.peek ss2 wd2 q1) (rr2.peek ss2 wd2 q2) k2 fun H0' H' v w g rv kw =>
        hk _ _ _ _ _ _ (e1.trans (e2.trans g.e0)) (wd2.grow g) (ss2.mono g.e0) (.w rv) kw
theorem pd_op {op : Operator} {r : R2} {o : O2} (ho : OpR X (binaryOp op) r) (hd : OpD X.K Z r o) (ha : PD X Z E a da) (hb : PD X Z E b db) : PD X Z E (.BinOp a op b pos) (dOp o da db) :=
  pe_weak (pe_op ho ha hb) fun _ _ _ => dop_ok hd
theorem pd_cmp {op : CmpOp} {r : R2} {o : O2} (ho : OpR X (compareOp op) r) (hd : OpD X.K Z r o) (ha : PD X Z E a da) (hb : PD X Z E b db) (hm : behindInMarks op b = false) : PD X Z E (.Compare a [op] [b] pos) (dOp o da db) :=
  pe_weak (pe_cmpR ho ha hb hm) fun _ _ _ => dop_ok hd
theorem pd_ix {r : R2} {o : O2} (ho : IxR X r) (hd : OpD X.K Z r o) (ha : PD X Z E a da) (hb : PD X Z E b db) (hs : PlainIx b) : PD X Z E (.Subscript a b pos) (dOp o da db) :=
  pe_weak (pe_ix ho ha hb hs) fun _ _ _ => dop_ok hd
end

/-! ### argument lists -/
inductive RepRs (K : PySem.W.Frag) (Z : Zx) (H : Hp) (σ : L2.St) : List V → List R → Prop
  | nil : RepRs K Z H σ [] []
  | cons {v r vs rs} : RepR K Z H σ v r → RepRs K Z H σ vs rs → RepRs K Z H σ (v :: vs) (r :: rs)
section
variable {K : PySem.W.Frag} {Z : Zx} {H0 H H' F : Hp} {σ : L2.St} {pv : List V}
theorem RepRs.mono (e : Ex H H') : ∀ {vs rs}, RepRs K Z H σ vs rs → RepRs K Z H' σ vs rs
  | _, _, .nil => .nil
  | _, _, .cons h t => .cons (h.mono e) (RepRs.mono e t)
theorem RepRs.peek {st : S} {G : Fp} (ss : Sts K Z H0 pv σ st G) (wd : Wd H0 F G H) : ∀ {vs rs ws}, RepRs K Z H0 σ vs rs → vals st rs = some ws → RepPs K Z H0 H vs ws
  | _, _, _, .nil, e => by cases e; exact .nil
  | _, _, ws, .cons (r := r) (rs := rs) h t, e => by
    unfold vals at e
    cases q1 : r.val st with
    | none => rw [q1] at e; cases e
    | some w =>
      cases q2 : vals st rs with
      | none => rw [q1, q2] at e; cases e
      | some ws' =>
        rw [q1, q2] at e; cases e
        exact .cons (h.peek ss wd q1) (RepRs.peek ss wd t q2)
theorem RepRs.frs : ∀ {vs rs ws}, RepRs K Z H0 σ vs rs → frs' rs = some ws → Reps K Z H0 vs ws
  | _, _, _, .nil, e => by cases e; exact .nil
  | _, _, ws, .cons (r := .pk _) h t, e => by cases e
  | _, _, ws, .cons (r := .w w) (rs := rs) h t, e => by
    unfold frs' at e
    cases q : frs' rs with
    | none => rw [q] at e; cases e
    | some us => rw [q] at e; cases e; cases h with | w h => exact .cons h (RepRs.frs t q)
end
section
variable (K : PySem.W.Frag) (Z : Zx) (E : XS)
def AccA (F : Hp) (pv : List V) (σ : L2.St) (H0 : Hp) (k : List R → S → Prop) (Q : List V → Hp → Prop) : Prop :=
  ∀ H0' G' H' st' vs rs, Ex H0 H0' → Wd H0' F G' H' → Sts K Z H0' pv σ st' G' → RepRs K Z H0' σ vs rs → k rs st' → Q vs H'
def tAr (d : DA) : TA := fun σ H Q => ∃ H0 F G pv st k kx, Wd H0 F G H ∧ Sts K Z H0 pv σ st G ∧ d st k kx ∧ AccA K Z F pv σ H0 k Q ∧ AccXe K Z E F pv σ H0 kx
end
def PAD (X : Cx) (Z : Zx) (E : XS) (es : List Expr) (d : DA) : Prop := PA X es (tAr X.K Z E d)
section
variable {X : Cx} {Z : Zx} {E : XS} {e a b : Expr} {es : List Expr} {da db : DE} {ds : DA} {pos : Pos}
theorem pad_nil : PAD X Z E [] aNil := pa_weak pa_nil fun σ H Q q => by
  obtain ⟨H0, F, G, pv, st, k, kx, wd, ss, hd, hk, hx⟩ := q
  exact hk _ _ _ _ _ _ (Ex.refl _) wd ss .nil hd
theorem tA_seq {K : PySem.W.Frag} {σ : L2.St} {H H0 F : Hp} {G : Fp} {pv : List V} {st : S} {kx : KX} {Q : List V → Hp → Prop} {k : List R → S → Prop} (wd : Wd H0 F G H) (ss : Sts K Z H0 pv σ st G) (hx : AccXe K Z E F pv σ H0 kx) (hd : ds st k kx)
    (h : ∀ H0' G' H' st' vs rs, Ex H0 H0' → Wd H0' F G' H' → Sts K Z H0' pv σ st' G' → RepRs K Z H0' σ vs rs → k rs st' → Q vs H') : tAr K Z E ds σ H Q := ⟨H0, F, G, pv, st, k, kx, wd, ss, hd, h, hx⟩
theorem pad_cons (ha : PD X Z E e da) (hr : PAD X Z E es ds) (hs : starEach (e :: es) X.env = (false, eval e X.env) :: starEach es X.env := by rfl) : PAD X Z E (e :: es) (aCons da ds) := by
  refine pa_weak (pa_cons ha hr hs) fun σ H Q q => ?_
  obtain ⟨H0, F, G, pv, st, k, kx, wd, ss, hd, hk, hx⟩ := q
  refine tE_seq wd ss hx hd fun H1 G1 H1' st1 v1 r1 e1 wd1 ss1 rr1 k1 => ?_
  exact tA_seq wd1 ss1 (hx.up e1) k1 fun H2 G2 H2' st2 vs rs e2 wd2 ss2 rr2 k2 => hk _ _ _ _ _ _ (e1.trans e2) wd2 ss2 (.cons (rr1.mono e2) rr2) k2
theorem dcb_ok {r : List V → Hp → VK → Prop} {c : OC} {σ : L2.St} {H : Hp} {Q : VK} (hc : CallD X.K Z r c) (q : tE X.K Z E (dCB c ds) σ H Q) : tCB r (tAr X.K Z E ds) σ H Q := by
  obtain ⟨H0, F, G, pv, st, k, kx, wd, ss, hd, hk, hx⟩ := q
  refine tA_seq wd ss hx hd fun H1 G1 H1' st1 vs rs e1 wd1 ss1 rr1 k1 => ?_
  cases q1 : vals st1 rs with
  | none => rw [q1] at k1; exact k1.elim
  | some ws =>
    rw [q1] at k1
    exact hc H1 H1' vs ws _ Q wd1.ex (rr1.peek ss1 wd1 q1) k1 fun H0' H' v w g rv kw => hk _ _ _ _ _ _ (e1.trans g.e0) (wd1.grow g) (ss1.mono g.e0) (.w rv) kw
theorem pd_callB {x : Str} {p : Pos} {id : String} {r : List V → Hp → VK → Prop} {c : OC} (hc : CallR X (.builtin id) r) (hd : CallD X.K Z r c) (hg : Gl X x) (hm : X.mg x = none) (hv : bootBuiltins x = some (.builtin id)) (ha : PAD X Z E (e :: es) ds)
    (hn : x ≠ "__name__" := by decide) (hdb : (x == ("__debug__" : Str)) = false := by decide) (he : starEach (e :: es) X.env = (false, eval e X.env) :: starEach es X.env := by rfl) (hpl : (backTo pos (starEach es X.env)).any (·.1) = false := by rfl) :
    PD X Z E (.Call (.Name x p) (e :: es) [] pos) (dCB c ds) := pe_weak (pe_callB hc hg hm hv ha hn hdb he hpl) fun _ _ _ => dcb_ok hd
theorem pd_callTy {x : Str} {p : Pos} {id : String} {r : List V → Hp → VK → Prop} {c : OC} (hc : CallR X (.type id) r) (hd : CallD X.K Z r c) (hg : Gl X x) (hm : X.mg x = none) (hv : bootBuiltins x = some (.type id)) (ha : PAD X Z E (e :: es) ds)
    (hn : x ≠ "__name__" := by decide) (hdb : (x == ("__debug__" : Str)) = false := by decide) (he : starEach (e :: es) X.env = (false, eval e X.env) :: starEach es X.env := by rfl) (hpl : (backTo pos (starEach es X.env)).any (·.1) = false := by rfl) :
    PD X Z E (.Call (.Name x p) (e :: es) [] pos) (dCB c ds) := pe_weak (pe_callTy hc hg hm hv ha hn hdb he hpl) fun _ _ _ => dcb_ok hd
end

/-! ### tests -/
section
variable (K : PySem.W.Frag) (Z : Zx) (E : XS)
def AccT (F : Hp) (pv : List V) (σ : L2.St) (H0 : Hp) (k : Bool → S → Prop) (Q : Bool → Hp → Prop) : Prop :=
  ∀ H0' G' H' st' b, Ex H0 H0' → Wd H0' F G' H' → Sts K Z H0' pv σ st' G' → k b st' → Q b H'
def tTs (d : DT) : TT := fun σ H Q => ∃ H0 F G pv st k kx, Wd H0 F G H ∧ Sts K Z H0 pv σ st G ∧ d st k kx ∧ AccT K Z F pv σ H0 k Q ∧ AccXe K Z E F pv σ H0 kx
end
def PTD (X : Cx) (Z : Zx) (E : XS) (e : Expr) (d : DT) : Prop := PT X e (tTs X.K Z E d)
def PWD (X : Cx) (Z : Zx) (E : XS) (e : Expr) (d : DT) : Prop := PW X e (tTs X.K Z E d)
section
variable {X : Cx} {Z : Zx} {E : XS} {e a b : Expr} {es : List Expr} {da db : DE} {ta tb : DT} {pos : Pos}
theorem pw_weak {t t' : TT} (h : PW X e t) (k : ∀ σ H Q, t' σ H Q → t σ H Q) : PW X e t' := ⟨fun wh pins s σ H Q I q => h.run wh pins s σ H Q I (k σ H Q q)⟩
theorem tT_seq {K : PySem.W.Frag} {σ : L2.St} {H H0 F : Hp} {G : Fp} {pv : List V} {st : S} {kx : KX} {Q : Bool → Hp → Prop} {k : Bool → S → Prop} (wd : Wd H0 F G H) (ss : Sts K Z H0 pv σ st G) (hx : AccXe K Z E F pv σ H0 kx) (hd : ta st k kx)
    (h : ∀ H0' G' H' st' b, Ex H0 H0' → Wd H0' F G' H' → Sts K Z H0' pv σ st' G' → k b st' → Q b H') : tTs K Z E ta σ H Q := ⟨H0, F, G, pv, st, k, kx, wd, ss, hd, h, hx⟩
theorem dtest_ok {σ : L2.St} {H : Hp} {Q : Bool → Hp → Prop} {t : TE} (ht : ∀ σ H Q, tE X.K Z E da σ H Q → t σ H Q) (q : tTs X.K Z E (dTest da) σ H Q) : t σ H fun x H' => ∃ k, x = .bl k ∧ Q k H' := by
  obtain ⟨H0, F, G, pv, st, k, kx, wd, ss, hd, hk, hx⟩ := q
  refine ht _ _ _ (tE_seq wd ss hx hd fun H1 G1 H1' st1 v1 r1 e1 wd1 ss1 rr1 k1 => ?_)
  cases rr1 with
  | pk _ => exact k1.elim
  | w rv => cases rv with
    | bl => exact ⟨_, rfl, hk _ _ _ _ _ e1 wd1 ss1 k1⟩
    | _ => exact k1.elim
theorem ptd_cmp {op : CmpOp} {r : R2} {o : O2} (ho : OpR X (compareOp op) r) (hd : OpD X.K Z r o) (ha : PD X Z E a da) (hb : PD X Z E b db) (hm : behindInMarks op b = false) : PTD X Z E (.Compare a [op] [b] pos) (dTest (dOp o da db)) :=
  pt_weak (pt_cmpR ho ha hb hm) fun _ _ _ q => dtest_ok (fun _ _ _ => dop_ok hd) q
theorem pwd_and1 (ha : PTD X Z E a ta) : PWD X Z E (.BoolOp .And [a] pos) ta := pw_weak (pw_and1 ha) fun _ _ _ q => q
theorem pwd_or1 (ha : PTD X Z E a ta) : PWD X Z E (.BoolOp .Or [a] pos) ta := pw_weak (pw_or1 ha) fun _ _ _ q => q
theorem pwd_and {rest : List Expr} (ha : PTD X Z E a ta) (hb : PWD X Z E (.BoolOp .And (b :: rest) pos) tb) : PWD X Z E (.BoolOp .And (a :: b :: rest) pos) (dAnd ta tb) := by
  refine pw_weak (pw_and ha hb) fun σ H Q q => ?_
  obtain ⟨H0, F, G, pv, st, k, kx, wd, ss, hd, hk, hx⟩ := q
  refine tT_seq wd ss hx hd fun H1 G1 H1' st1 c e1 wd1 ss1 k1 => ?_
  cases c with
  | true => exact iteT (tT_seq wd1 ss1 (hx.up e1) (k1.1 rfl) fun H2 G2 H2' st2 c e2 wd2 ss2 k2 => hk _ _ _ _ _ (e1.trans e2) wd2 ss2 k2)
  | false => exact iteF (hk _ _ _ _ _ e1 wd1 ss1 (k1.2 rfl))
theorem pwd_or {rest : List Expr} (ha : PTD X Z E a ta) (hb : PWD X Z E (.BoolOp .Or (b :: rest) pos) tb) : PWD X Z E (.BoolOp .Or (a :: b :: rest) pos) (dOr ta tb) := by
  refine pw_weak (pw_or ha hb) fun σ H Q q => ?_
  obtain ⟨H0, F, G, pv, st, k, kx, wd, ss, hd, hk, hx⟩ := q
  refine tT_seq wd ss hx hd fun H1 G1 H1' st1 c e1 wd1 ss1 k1 => ?_
  cases c with
  | true => exact iteT (hk _ _ _ _ _ e1 wd1 ss1 (k1.1 rfl))
  | false => exact iteF (tT_seq wd1 ss1 (hx.up e1) (k1.2 rfl) fun H2 G2 H2' st2 c e2 wd2 ss2 k2 => hk _ _ _ _ _ (e1.trans e2) wd2 ss2 k2)
theorem PWD.pt (h : PWD X Z E e ta) : PTD X Z E e ta := PW.pt h
theorem ptd_not (ha : PTD X Z E a ta) : PTD X Z E (.UnaryOp .Not a pos) (dNot ta) := by
  refine pt_weak (pt_not ha) fun σ H Q q => ?_
  obtain ⟨H0, F, G, pv, st, k, kx, wd, ss, hd, hk, hx⟩ := q
  exact tT_seq wd ss hx hd fun H1 G1 H1' st1 c e1 wd1 ss1 k1 => hk _ _ _ _ _ e1 wd1 ss1 k1
theorem pd_if {c : Expr} (hc : PTD X Z E c ta) (ha : PD X Z E a da) (hb : PD X Z E b db) : PD X Z E (.IfExp c a b pos) (dIfE ta da db) := by
  refine pe_weak (pe_ifExp hc ha hb) fun σ H Q q => ?_
  obtain ⟨H0, F, G, pv, st, k, kx, wd, ss, hd, hk, hx⟩ := q
  refine tT_seq wd ss hx hd fun H1 G1 H1' st1 c e1 wd1 ss1 k1 => ?_
  cases c with
  | true => exact iteT (tE_seq wd1 ss1 (hx.up e1) (k1.1 rfl) (hk.up e1))
  | false => exact iteF (tE_seq wd1 ss1 (hx.up e1) (k1.2 rfl) (hk.up e1))
theorem pd_one {op} (h : PD X Z E a da) : PD X Z E (.BoolOp op [a] pos) da := pe_weak (pe_one h) fun _ _ _ q => q
theorem pd_and {rest : List Expr} (ha : PD X Z E a da) (hb : PD X Z E (.BoolOp .And (b :: rest) pos) db) : PD X Z E (.BoolOp .And (a :: b :: rest) pos) (dAndV da db) := by
  refine pe_weak (pe_and ha hb) fun σ H Q q => ?_
  obtain ⟨H0, F, G, pv, st, k, kx, wd, ss, hd, hk, hx⟩ := q
  refine tE_seq wd ss hx hd fun H1 G1 H1' st1 v1 r1 e1 wd1 ss1 rr1 k1 => ?_
  cases rr1 with
  | pk _ => exact k1.elim
  | w rv => cases rv with
    | bl =>
      rename_i c
      refine ⟨c, rfl, ?_⟩
      cases c with
      | true => exact iteT (tE_seq wd1 ss1 (hx.up e1) (k1.1 rfl) (hk.up e1))
      | false => exact iteF (hk _ _ _ _ _ _ e1 wd1 ss1 (.w .bl) (k1.2 rfl))
    | _ => exact k1.elim
end

/-! ### statements -/
section
variable {X : Cx} {Z : Zx} {E : XS} {e a b : Expr} {es : List Expr} {da db : DE} {ta tb : DT} {s : Stmt} {rest : List Stmt} {d d1 d2 : DS} {pos : Pos}
theorem tS_seq {K : PySem.W.Frag} {σ : L2.St} {H H0 F : Hp} {G : Fp} {pv : List V} {st : S} {DD : DEnds} {D : Ends} (wd : Wd H0 F G H) (ss : Sts K Z H0 pv σ st G) (hd : d DD st) (h : AccD K Z E F pv H0 DD D) : tS K Z E d D σ H := ⟨H0, F, G, pv, st, DD, wd, ss, hd, h⟩
theorem zs_nil : PZs X Z E [] dNext := pss_weak pss_nil fun D σ H q => by
  obtain ⟨H0, F, G, pv, st, DD, wd, ss, hd, ha⟩ := q
  exact ha.nx _ _ _ _ _ (Ex.refl _) wd ss hd
theorem zs_one (h : PZ X Z E s d) : PZs X Z E [s] d := pss_weak (pss_one h) fun _ _ _ q => q
theorem zs_cons (h1 : PZ X Z E s d1) (h2 : PZs X Z E rest d2) : PZs X Z E (s :: rest) (dSeq d1 d2) := by
  refine pss_weak (pss_cons h1 h2) fun D σ H q => ?_
  obtain ⟨H0, F, G, pv, st, DD, wd, ss, hd, ha⟩ := q
  refine tS_seq wd ss hd ⟨fun H1 G1 H1' σ1 st1 e1 wd1 ss1 k1 => ?_, ha.rt, ha.bk, ha.ct, ha.ex⟩
  exact tS_seq wd1 ss1 k1 (ha.up e1)
theorem z_expr (he : PD X Z E e da) (hs : swapsWith e none pos.line X.env = pure false := by rfl) : PZ X Z E (.Expr e pos) (dExpr da) := by
  refine ps_weak (ps_expr he hs) fun D σ H q => ?_
  obtain ⟨H0, F, G, pv, st, DD, wd, ss, hd, ha⟩ := q
  exact tE_seq wd ss ha.ex.at hd fun H1 G1 H1' st1 v r e1 wd1 ss1 rr k1 => ha.nx _ _ _ _ _ e1 wd1 ss1 k1
theorem Wd.perm {H0 F H : Hp} {G G' : Fp} (wd : Wd H0 F G H) (p : G'.Perm G) : Wd H0 F G' H :=
  ⟨wd.ex, wd.fr, fun q hq => wd.ow q (p.mem_iff.mp hq), (p.map _).nodup_iff.mpr wd.nd, fun q hq => wd.d0 q (p.mem_iff.mp hq), fun q hq => wd.dF q (p.mem_iff.mp hq), wd.d0F, wd.tb, fun q hq => wd.tn q (p.mem_iff.mp hq)⟩
theorem z_ret (he : PD X Z E e da) : PZ X Z E (.Return (some e) pos) (dRet da) := by
  refine ps_weak (ps_ret he) fun D σ H q => ?_
  obtain ⟨H0, F, G, pv, st, DD, wd, ss, hd, ha⟩ := q
  refine tE_seq wd ss ha.ex.at hd fun H1 G1 H1' st1 v r e1 wd1 ss1 rr k1 => ?_
  cases rr with
  | w rv => exact ha.rt _ [] _ _ _ _ _ _ e1 wd1 (.fz rv) ss1 k1
  | pk h =>
    rename_i i
    replace k1 : (match at' st1 i with | .lo t => DD.rt t (put st1 i .un) | _ => False) := k1
    cases q : at' st1 i with
    | un => rw [q] at k1; exact k1.elim
    | mp k t => rw [q] at k1; exact k1.elim
    | fr _ _ _ _ _ _ => rw [q] at k1; exact k1.elim
    | lo t =>
      rw [q] at k1
      obtain ⟨v', Gx, Ga, Gb, h1, h2, h3, _, h5⟩ := ss1.lo_at q
      rw [h] at h1; cases h1
      subst h3
      refine ha.rt _ Gx _ _ _ _ _ _ e1 (wd1.perm ?_) h2 h5 k1
      rw [← List.append_assoc]
      exact List.Perm.append_right _ List.perm_append_comm
theorem z_if {c : Expr} {as bs : List Stmt} (hc : PTD X Z E c ta) (h1 : PZs X Z E as d1) (h2 : PZs X Z E bs d2) : PZ X Z E (.If c as bs pos) (dIf ta d1 d2) := by
  refine ps_weak (ps_if hc h1 h2) fun D σ H q => ?_
  obtain ⟨H0, F, G, pv, st, DD, wd, ss, hd, ha⟩ := q
  refine tT_seq wd ss ha.ex.at hd fun H1 G1 H1' st1 c e1 wd1 ss1 k1 => ?_
  cases c with
  | true => exact iteT (tS_seq wd1 ss1 (k1.1 rfl) (ha.up e1))
  | false => exact iteF (tS_seq wd1 ss1 (k1.2 rfl) (ha.up e1))
theorem put_over : ∀ (st : S) (i : Nat) (x : Sl), st.length ≤ i → put st i x = st
  | [], _, _, _ => rfl
  | _ :: _, 0, _, h => absurd h (Nat.not_succ_le_zero _)
  | s :: l, i + 1, x, h => congrArg (s :: ·) (put_over l i x (Nat.le_of_succ_le_succ h))
/-- a frozen value stored in a slot -/
theorem sto_ok {K : PySem.W.Frag} {σ : L2.St} {H H0 F : Hp} {G : Fp} {pv : List V} {st : S} {i : Nat} {v : V} {w : W} {k : S → Prop} (wd : Wd H0 F G H) (ss : Sts K Z H0 pv σ st G) (r : Rep K Z H0 v w) (h : sto st i (.fz w) k) :
    ∃ G', Wd H0 F G' H ∧ Sts K Z H0 pv (σ.set i (some v)) (put st i (.lo (.fz w))) G' ∧ k (put st i (.lo (.fz w))) := by
  unfold sto at h
  have hn : ∀ n t, at' st i ≠ .mp n t := fun n t z => by rw [z] at h; exact h
  have h' : k (put st i (.lo (.fz w))) := by
    cases q : at' st i with
    | mp n t => exact absurd q (hn n t)
    | un => rw [q] at h; exact h
    | lo t => rw [q] at h; exact h
    | fr _ _ _ _ _ _ => rw [q] at h; exact h
  by_cases hl : i < st.length
  · obtain ⟨Ga, Gx, Gb, h1, h2⟩ := ss.store i hl hn
    subst h1
    refine ⟨Ga ++ Gb, wd.less, ?_, h'⟩
    have := h2 H0 v (.fz w) [] (Ex.refl _) (.fz r)
    rw [List.append_nil] at this
    exact this
  · refine ⟨G, wd, ?_, h'⟩
    rw [put_over _ _ _ (Nat.le_of_not_lt hl), List.set_eq_of_length_le (by rw [ss.length]; exact Nat.le_of_not_lt hl)]
    exact ss
theorem z_set {i : Nat} {x : Str} {pos' : Pos} (hN : X.N.Nodup) (hi : X.N[i]? = some x) (hx : Loc X.env.scope x) (he : PD X Z E e da) (hs : swapsWith e (some (.Name x pos')) pos.line X.env = pure false := by rfl) (hf : X.fn x = true ∨ X.env.scope.names.lookup x = some .local := by first | exact .inl rfl | exact .inr rfl | assumption) :
    PZ X Z E (.Assign [.Name x pos'] e pos) (dAsg i da) := by
  refine ps_weak (ps_set hN hi hx he hs hf) fun D σ H q => ?_
  obtain ⟨H0, F, G, pv, st, DD, wd, ss, hd, ha⟩ := q
  refine tE_seq wd ss ha.ex.at hd fun H1 G1 H1' st1 v r e1 wd1 ss1 rr k1 => ?_
  cases rr with
  | pk _ => exact k1.elim
  | w rv =>
    obtain ⟨G', wd2, ss2, k2⟩ := sto_ok wd1 ss1 rv k1
    exact ha.nx _ _ _ _ _ e1 wd2 ss2 k2
end
end Y
namespace Y
open PySem L2
open Evl (Ex)

/-! ### numbers -/
def oI (C : Int → Int → Prop) (g : Int → Int → W) : O2 := fun a b k => match a, b with
  | .int i, .int j => C i j ∧ k (g i j)
  | _, _ => False
def oI0 (g : Int → Int → W) : O2 := fun a b k => match a, b with
  | .int i, .int j => k (g i j)
  | _, _ => False
section
variable {K : PySem.W.Frag} {Z : Zx} {C : Int → Int → Prop} {gV : Int → Int → V} {gW : Int → Int → W}
theorem opd_I (hr : ∀ H i j, Rep K Z H (gV i j) (gW i j)) : OpD K Z (rI C gV) (oI C gW) := by
  intro H0 H v1 w1 v2 w2 k Q e r1 r2 o f
  cases w1 <;> first | exact o.elim | skip
  rename_i i
  cases w2 <;> first | exact o.elim | skip
  rename_i j
  exact ⟨i, j, r1.int_of, r2.int_of, o.1, f.same e (hr _ i j) o.2⟩
theorem opd_I0 (hr : ∀ H i j, Rep K Z H (gV i j) (gW i j)) : OpD K Z (rI0 gV) (oI0 gW) := by
  intro H0 H v1 w1 v2 w2 k Q e r1 r2 o f
  cases w1 <;> first | exact o.elim | skip
  rename_i i
  cases w2 <;> first | exact o.elim | skip
  rename_i j
  exact ⟨i, j, r1.int_of, r2.int_of, f.same e (hr _ i j) o⟩
end
abbrev oDiv := oI CDivW fun i j => .int (i / j)
abbrev oMod := oI (fun _ j => 0 < j) fun i j => .int (i % j)
abbrev oPow := oI CPow fun i j => .int (i ^ j.toNat)
abbrev oLt := oI0 fun i j => .bl (decide (i < j))
abbrev oGt := oI0 fun i j => .bl (decide (j < i))
abbrev oGe := oI0 fun i j => .bl (decide (j ≤ i))
section
variable {X : Cx} {Z : Zx} {E : XS} {e a b c : Expr} {da db dc : DE} {pos : Pos}
theorem pd_div (ha : PD X Z E a da) (hb : PD X Z E b db) : PD X Z E (.BinOp a .FloorDiv b pos) (dOp oDiv da db) := pd_op op_fdivW (opd_I fun _ _ _ => .int) ha hb
theorem pd_mod (ha : PD X Z E a da) (hb : PD X Z E b db) : PD X Z E (.BinOp a .Mod b pos) (dOp oMod da db) := pd_op op_mod (opd_I fun _ _ _ => .int) ha hb
theorem pd_pow (ha : PD X Z E a da) (hb : PD X Z E b db) : PD X Z E (.BinOp a .Pow b pos) (dOp oPow da db) := pd_op op_pow (opd_I fun _ _ _ => .int) ha hb
theorem ptd_lt (ha : PD X Z E a da) (hb : PD X Z E b db) : PTD X Z E (.Compare a [.Lt] [b] pos) (dTest (dOp oLt da db)) := ptd_cmp op_lt (opd_I0 fun _ _ _ => .bl) ha hb (nomark _)
theorem ptd_gt (ha : PD X Z E a da) (hb : PD X Z E b db) : PTD X Z E (.Compare a [.Gt] [b] pos) (dTest (dOp oGt da db)) := ptd_cmp op_gt (opd_I0 fun _ _ _ => .bl) ha hb (nomark _)
theorem ptd_ge (ha : PD X Z E a da) (hb : PD X Z E b db) : PTD X Z E (.Compare a [.GtE] [b] pos) (dTest (dOp oGe da db)) := ptd_cmp op_ge (opd_I0 fun _ _ _ => .bl) ha hb (nomark _)
end

/-! ### == of data -/
mutual
/-- the plain data that a value is -/
def W.pd : W → Option PyData
  | .non => some .none
  | .bl b => some (.bool b)
  | .int i => some (.int i)
  | .str s => some (.str s)
  | .tup ws => (W.pds ws).map .tuple
  | .lst ws => (W.pds ws).map .list
  | _ => none
def W.pds : List W → Option (List PyData)
  | [] => some []
  | w :: ws => (W.pd w).bind fun d => (W.pds ws).map fun ds => d :: ds
end
section
variable {K : PySem.W.Frag} {Z : Zx} {H H0 : Hp}
mutual
theorem Rep.dp : ∀ (w : W) {v : V} {d : PyData}, Rep K Z H v w → w.pd = some d → Dp K H v d
  | .non, _, _, h, e => by cases h; cases e; exact .non
  | .bl b, _, _, h, e => by cases h; cases e; exact .bl _
  | .int b, _, _, h, e => by cases h; cases e; exact .int _
  | .str b, _, _, h, e => by cases h; cases e; exact .str _
  | .tup ws, _, _, h, e => by
    cases h with
    | tup hs r =>
      unfold W.pd at e
      obtain ⟨ds, h1, rfl⟩ := Option.map_eq_some_iff.mp e
      exact .tup hs (Reps.dp ws r h1)
  | .lst ws, _, _, h, e => by
    cases h with
    | lst hs r =>
      unfold W.pd at e
      obtain ⟨ds, h1, rfl⟩ := Option.map_eq_some_iff.mp e
      exact .lst (.of hs) (Reps.dp ws r h1)
  | .ty _, _, _, _, e => by simp [W.pd] at e
  | .scr _, _, _, _, e => by simp [W.pd] at e
  | .ob _, _, _, _, e => by simp [W.pd] at e
  | .dK _, _, _, _, e => by simp [W.pd] at e
  | .dT _, _, _, _, e => by simp [W.pd] at e
  | .dF _, _, _, _, e => by simp [W.pd] at e
  | .tp _, _, _, _, e => by simp [W.pd] at e
  | .ins _ _, _, _, _, e => by simp [W.pd] at e
  | .xc _ _, _, _, _, e => by simp [W.pd] at e
theorem Reps.dp : ∀ (ws : List W) {vs : List V} {ds : List PyData}, Reps K Z H vs ws → W.pds ws = some ds → DpAll K H vs ds
  | [], _, _, h, e => by cases h; simp [W.pds] at e; subst e; exact .nil
  | w :: ws, _, _, h, e => by
    cases h with
    | cons h r =>
      unfold W.pds at e
      obtain ⟨d, h1, e⟩ := Option.bind_eq_some_iff.mp e
      obtain ⟨ds, h2, rfl⟩ := Option.map_eq_some_iff.mp e
      exact .cons (Rep.dp w h h1) (Reps.dp ws r h2)
end
theorem RepP.dp {v : V} {w : W} {d : PyData} (h : RepP K Z H0 H v w) (ex : Ex H0 H) (e : w.pd = some d) : Dp K H v d := by
  cases h with
  | fz h => exact (h.mono ex).dp w e
  | lst h r => exact Rep.dp _ (Rep.lst (Z := Z) h (r.mono ex)) e
  | dK h r => simp [W.pd] at e
  | dT h r => simp [W.pd] at e
  | ins z h n r => simp [W.pd] at e
end
/-- a == b, a != b of plain data -/
def oEq : O2 := fun a b k => ∃ d e, a.pd = some d ∧ b.pd = some e ∧ SeqAt.shaped d = true ∧ SeqAt.shaped e = true ∧ k (.bl (PyData.eqv d e))
theorem opd_eq {K : PySem.W.Frag} {Z : Zx} : OpD K Z (rEqD K) oEq := by
  intro H0 H v1 w1 v2 w2 k Q e r1 r2 o f
  obtain ⟨d, d', h1, h2, s1, s2, q⟩ := o
  exact ⟨d, d', r1.dp e h1, r2.dp e h2, s1, s2, f.same e .bl q⟩
/-- is None, is not None -/
def oIsN : O1 := fun a k => match a with
  | .non => k (.bl true)
  | _ => k (.bl false)
theorem RepP.isN {K : PySem.W.Frag} {Z : Zx} {H0 H : Hp} {v : V} {w : W} (h : RepP K Z H0 H v w) : (v = .non ↔ w = .non) := by
  constructor
  · rintro rfl
    cases h with | fz h => cases h; rfl
  · rintro rfl
    exact h.non_of
section
variable {X : Cx} {Z : Zx} {E : XS} {e a b c : Expr} {da db dc : DE} {pos : Pos}
theorem pd_eq (hu : X.A.units + 64 < cLine) (ha : PD X Z E a da) (hb : PD X Z E b db) : PD X Z E (.Compare a [.Eq] [b] pos) (dOp oEq da db) := pd_cmp (op_eqD hu) opd_eq ha hb (nomark _)
theorem isN_ok {o : O1} {p : V → V} (hp : ∀ {H0 H v w k} {Q : VK}, Ex H0 H → RepP X.K Z H0 H v w → o w k → Fin X.K Z H0 H k Q → Q (p v) H) {σ : L2.St} {H : Hp} {Q : VK} (q : tE X.K Z E (dUn o da) σ H Q) : tE X.K Z E da σ H fun x H1 => Q (p x) H1 := by
  obtain ⟨H0, F, G, pv, st, k, kx, wd, ss, hd, hk, hx⟩ := q
  refine tE_seq wd ss hx hd fun H1 G1 H1' st1 v1 r1 e1 wd1 ss1 rr1 k1 => ?_
  cases q1 : r1.val st1 with
  | none => rw [q1] at k1; exact k1.elim
  | some w1 =>
    rw [q1] at k1
    exact hp wd1.ex (rr1.peek ss1 wd1 q1) k1 fun H0' H' v w g rv kw => hk _ _ _ _ _ _ (e1.trans g.e0) (wd1.grow g) (ss1.mono g.e0) (.w rv) kw
theorem isN_val {H0 H : Hp} {v : V} {w : W} {k : W → Prop} {Q : VK} (e : Ex H0 H) (r : RepP X.K Z H0 H v w) (h : oIsN w k) (f : Fin X.K Z H0 H k Q) : Q (.bl (decide (v = .non))) H := by
  by_cases z : w = .non
  · rw [decide_eq_true (r.isN.mpr z)]
    subst z
    exact f.same e .bl h
  · rw [decide_eq_false (fun q => z (r.isN.mp q))]
    refine f.same e .bl ?_
    cases w <;> first | exact h | exact absurd rfl z
theorem ptd_isN {j pos'} (ha : PD X Z E a da) : PTD X Z E (.Compare a [.Is] [.Constant .none j pos'] pos) (dTest (dUn oIsN da)) := pt_weak (pt_cmp (pc_isN ha)) fun _ _ _ q => dtest_ok (fun _ _ _ q => isN_ok isN_val q) q
end

/-! ### built-ins of numbers -/
def cAbs : OC := fun ws k => match ws with
  | [.int i] => k (.int (if i < 0 then -i else i))
  | _ => False
def cMin2 : OC := fun ws k => match ws with
  | [.int i, .int j] => k (.int (if j < i then j else i))
  | _ => False
/-- len of a list, a tuple, a text -/
def cLen : OC := fun ws k => match ws with
  | [.lst xs] => k (.int xs.length)
  | [.scr xs] => k (.int xs.length)
  | [.tup xs] => k (.int xs.length)
  | [.str s] => s.length ≤ sizeLine ∧ k (.int s.length)
  | _ => False
/-- sum of whole numbers -/
def cSum : OC := fun ws k => ∃ ns : List Int, ws = [.lst (ns.map .int)] ∧ k (.int ns.sum)
section
variable {K : PySem.W.Frag} {Z : Zx}
theorem cd_abs : CallD K Z (fun xs H Q => ∃ i, xs = [.int i] ∧ Q (.int (if i < 0 then -i else i)) H) cAbs := by
  intro H0 H vs ws k Q e r c f
  unfold cAbs at c
  split at c
  · cases r with | cons r t => cases t; exact ⟨_, by rw [r.int_of], f.same e .int c⟩
  · exact c.elim
theorem cd_min2 : CallD K Z (fun xs H Q => ∃ i j, xs = [.int i, .int j] ∧ Q (.int (if j < i then j else i)) H) cMin2 := by
  intro H0 H vs ws k Q e r c f
  unfold cMin2 at c
  split at c
  · cases r with | cons r t => cases t with | cons r' t => cases t; exact ⟨_, _, by rw [r.int_of, r'.int_of], f.same e .int c⟩
  · exact c.elim
theorem cd_len : CallD K Z (fun xs H Q => ∃ x n, xs = [x] ∧ LenV K x H n ∧ Q (.int n) H) cLen := by
  intro H0 H vs ws k Q e r c f
  unfold cLen at c
  split at c
  · cases r with
    | cons r t =>
      cases t
      obtain ⟨p, xs, rfl, h, rs⟩ := r.lst_of e
      exact ⟨_, _, rfl, .inl ⟨_, .of h, rs.length.symm⟩, f.same e .int c⟩
  · cases r with
    | cons r t =>
      cases t
      obtain ⟨p, rfl, h⟩ := r.scr_of e
      exact ⟨_, _, rfl, .inl ⟨_, h, by rw [List.length_map]⟩, f.same e .int c⟩
  · cases r with
    | cons r t =>
      cases t
      obtain ⟨p, xs, rfl, h, rs⟩ := r.tup_of e
      exact ⟨_, _, rfl, .inr ⟨_, h, rs.length.symm⟩, f.same e .int c⟩
  · cases r with
    | cons r t =>
      cases t
      have z := r.str_of
      subst z
      exact ⟨_, _, rfl, ⟨c.1, rfl⟩, f.same e .int c.2⟩
  · exact c.elim
theorem cd_sum : CallD K Z (rSum K) cSum := by
  intro H0 H vs ws k Q e r c f
  obtain ⟨ns, rfl, c⟩ := c
  cases r with
  | cons r t =>
    cases t
    obtain ⟨p, xs, rfl, h, rs⟩ := r.lst_of e
    exact ⟨p, ns, rfl, by rw [← rs.ints_of]; exact .of h, f.same e .int c⟩
end
end Y
namespace Y
open PySem L2
open Evl (Ex)

/-! ### a new object in hand: it stands in the frame until it is frozen or owned -/
section
variable {H0 F H : Hp} {G : Fp} {p : Addr} {o o' : HO}
theorem Wd.free (wd : Wd H0 F G H) (hp : H p = none) : H0 p = none ∧ F p = none ∧ ∀ q ∈ G, q.1 ≠ p := by
  refine ⟨?_, ?_, fun q hq z => by have := wd.ow q hq; rw [z, hp] at this; cases this⟩
  · cases q : H0 p with
    | none => rfl
    | some u => rw [wd.ex p u q] at hp; cases hp
  · exact wd.fnone hp
theorem Wd.hand (wd : Wd H0 F G H) (hp : H p = none) (ho : tabQ o = none := by rfl) : Wd H0 (upd F p o) G (upd H p o) := by
  obtain ⟨h0, hF, hG⟩ := wd.free hp
  have nw : Ex H (upd H p o) := .new hp
  refine ⟨wd.ex.trans nw, fun a u e n => ?_, fun q hq => by rw [upd_ne (hG q hq)]; exact wd.ow q hq, wd.nd, wd.d0, fun q hq => by rw [upd_ne (hG q hq)]; exact wd.dF q hq, fun a u e => ?_, fun a u t e n => ?_, wd.tn⟩
  · by_cases z : a = p
    · subst z; rw [upd_same] at e ⊢; exact e
    · rw [upd_ne z] at e ⊢; exact wd.fr a u e n
  · rw [upd_ne (fun z => by rw [z, h0] at e; cases e)]; exact wd.d0F a u e
  · by_cases z : a = p
    · subst z; rw [upd_same] at e; cases e; rw [ho] at n; cases n
    · rw [upd_ne z] at e; exact (wd.tb a u t e n).up (Ex.refl _) (nw a)
theorem Wd.hand_write (wd : Wd H0 (upd F p o) G H) (hF : F p = none) (ho : tabQ o' = none := by rfl) : Wd H0 (upd F p o') G (upd H p o') := by
  have h0 : H0 p = none := by
    cases q : H0 p with
    | none => rfl
    | some u => have := wd.d0F p u q; rw [upd_same] at this; cases this
  have hG : ∀ q ∈ G, q.1 ≠ p := fun q hq z => by have := wd.dF q hq; rw [z, upd_same] at this; cases this
  refine ⟨fun a u e => ?_, fun a u e n => ?_, fun q hq => by rw [upd_ne (hG q hq)]; exact wd.ow q hq, wd.nd, wd.d0, fun q hq => by rw [upd_ne (hG q hq)]; have := wd.dF q hq; rw [upd_ne (hG q hq)] at this; exact this, fun a u e => ?_, fun a u t e n => ?_, wd.tn⟩
  · rw [upd_ne (fun z => by rw [z, h0] at e; cases e)]; exact wd.ex a u e
  · by_cases z : a = p
    · subst z; rw [upd_same] at e ⊢; exact e
    · rw [upd_ne z] at e ⊢; exact wd.fr a u (by rw [upd_ne z]; exact e) n
  · have ne : a ≠ p := fun z => by rw [z, h0] at e; cases e
    have := wd.d0F a u e
    rw [upd_ne ne] at this ⊢; exact this
  · by_cases z : a = p
    · subst z; rw [upd_same] at e; cases e; rw [ho] at n; cases n
    · rw [upd_ne z] at e; exact (wd.tb a u t (by rw [upd_ne z]; exact e) n).up (Ex.refl _) fun v hv => by rw [upd_ne z]; exact hv
theorem Wd.hand_at (wd : Wd H0 (upd F p o) G H) (ho : tabQ o = none := by rfl) : H p = some o := wd.fr p o upd_same ho
/-- frozen -/
theorem Wd.hand_fz (wd : Wd H0 (upd F p o) G H) (hF : F p = none) (ho : tabQ o = none := by rfl) : Wd (upd H0 p o) F G H ∧ Ex H0 (upd H0 p o) := by
  have h0 : H0 p = none := by
    cases q : H0 p with
    | none => rfl
    | some u => have := wd.d0F p u q; rw [upd_same] at this; cases this
  have hG : ∀ q ∈ G, q.1 ≠ p := fun q hq z => by have := wd.dF q hq; rw [z, upd_same] at this; cases this
  have nw : Ex H0 (upd H0 p o) := .new h0
  refine ⟨⟨fun a u e => ?_, fun a u e n => ?_, wd.ow, wd.nd, fun q hq => by rw [upd_ne (hG q hq)]; exact wd.d0 q hq, fun q hq => ?_, fun a u e => ?_, fun a u t e n => (wd.tb a u t (by rw [upd_ne (fun z => by rw [z, hF] at e; cases e)]; exact e) n).up nw (fun _ h => h), wd.tn⟩, nw⟩
  · by_cases z : a = p
    · subst z; rw [upd_same] at e; cases e; exact wd.hand_at ho
    · rw [upd_ne z] at e; exact wd.ex a u e
  · exact wd.fr a u (by rw [upd_ne (fun z => by rw [z, hF] at e; cases e)]; exact e) n
  · have := wd.dF q hq; rw [upd_ne (hG q hq)] at this; exact this
  · by_cases z : a = p
    · subst z; exact hF
    · rw [upd_ne z] at e
      have := wd.d0F a u e; rw [upd_ne z] at this; exact this
/-- owned -/
theorem Wd.hand_own (wd : Wd H0 (upd F p o) G H) (hF : F p = none) (ho : tabQ o = none := by rfl) : Wd H0 F ((p, o) :: G) H := by
  have h0 : H0 p = none := by
    cases q : H0 p with
    | none => rfl
    | some u => have := wd.d0F p u q; rw [upd_same] at this; cases this
  have hG : ∀ q ∈ G, q.1 ≠ p := fun q hq z => by have := wd.dF q hq; rw [z, upd_same] at this; cases this
  refine ⟨wd.ex, fun a u e n => ?_, fun q hq => ?_, ?_, fun q hq => ?_, fun q hq => ?_, fun a u e => ?_, fun a u t e n => wd.tb a u t (by rw [upd_ne (fun z => by rw [z, hF] at e; cases e)]; exact e) n, fun q hq => ?_⟩
  · exact wd.fr a u (by rw [upd_ne (fun z => by rw [z, hF] at e; cases e)]; exact e) n
  · rcases List.mem_cons.mp hq with rfl | h
    · exact wd.hand_at ho
    · exact wd.ow q h
  · rw [List.map_cons]
    refine List.nodup_cons.mpr ⟨fun z => ?_, wd.nd⟩
    obtain ⟨q, hq, e⟩ := List.mem_map.mp z
    exact hG q hq e
  · rcases List.mem_cons.mp hq with rfl | h
    · exact h0
    · exact wd.d0 q h
  · rcases List.mem_cons.mp hq with rfl | h
    · exact hF
    · have := wd.dF q h; rw [upd_ne (hG q h)] at this; exact this
  · have ne : a ≠ p := fun z => by rw [z, h0] at e; cases e
    have := wd.d0F a u e; rw [upd_ne ne] at this; exact this
  · rcases List.mem_cons.mp hq with rfl | h
    · exact ho
    · exact wd.tn q h
/-- owned ones become frozen -/
theorem Wd.own_fz {Ga Gb : Fp} (wd : Wd H0 F (Ga ++ [(p, o)] ++ Gb) H) : Wd (upd H0 p o) F (Ga ++ Gb) H ∧ Ex H0 (upd H0 p o) := by
  have hp : H p = some o := wd.ow (p, o) (by simp)
  have h0 : H0 p = none := wd.d0 (p, o) (by simp)
  have hF : F p = none := wd.dF (p, o) (by simp)
  have nd := wd.nd
  have ne : ∀ q ∈ Ga ++ Gb, q.1 ≠ p := fun q hq z => by
    rw [List.map_append, List.map_append, List.append_assoc, List.map_singleton] at nd
    have perm : (Ga.map (·.1) ++ ([p] ++ Gb.map (·.1))).Perm (p :: (Ga.map (·.1) ++ Gb.map (·.1))) := List.perm_middle
    have := (List.nodup_cons.mp (perm.nodup_iff.mp nd)).1
    rw [← List.map_append] at this
    exact this (List.mem_map.mpr ⟨q, hq, z⟩)
  have wd' := wd.less
  have nw : Ex H0 (upd H0 p o) := .new h0
  refine ⟨⟨fun a u e => ?_, wd'.fr, wd'.ow, wd'.nd, fun q hq => by rw [upd_ne (ne q hq)]; exact wd'.d0 q hq, wd'.dF, fun a u e => ?_, fun a u t e n => (wd'.tb a u t e n).up nw fun _ h => h, wd'.tn⟩, nw⟩
  · by_cases z : a = p
    · subst z; rw [upd_same] at e; cases e; exact hp
    · rw [upd_ne z] at e; exact wd.ex a u e
  · by_cases z : a = p
    · subst z; exact hF
    · rw [upd_ne z] at e; exact wd.d0F a u e
end

/-! ### fresh lists -/
abbrev DL := S → (List W → S → Prop) → KX → Prop
section
variable (K : PySem.W.Frag) (Z : Zx) (E : XS)
def AccL (F : Hp) (pv : List V) (σ : L2.St) (H0 : Hp) (k : List W → S → Prop) (Q : VK) : Prop :=
  ∀ H0' G' H' st' p xs ws, Ex H0 H0' → Wd H0' (upd F p (.lst xs)) G' H' → F p = none → Sts K Z H0' pv σ st' G' → Reps K Z H0' xs ws → k ws st' → Q (.ref p) H'
def tL (d : DL) : TE := fun σ H Q => ∃ H0 F G pv st k kx, Wd H0 F G H ∧ Sts K Z H0 pv σ st G ∧ d st k kx ∧ AccL K Z F pv σ H0 k Q ∧ AccXe K Z E F pv σ H0 kx
end
def PLD (X : Cx) (Z : Zx) (E : XS) (e : Expr) (d : DL) : Prop := PE X e (tL X.K Z E d)
/-- the list frozen, as a value -/
def dFz (d : DL) : DE := fun st k x => d st (fun ws st1 => k (.w (.lst ws)) st1) x
def stoT (st : S) (i : Nat) (t : T) (k : S → Prop) : Prop := match at' st i with
  | .mp _ _ => False
  | _ => k (put st i (.lo t))
/-- .. owned by a name, handed back as an own one -/
def dAsgO (i : Nat) (d : DL) : DS := fun D st => d st (fun ws st1 => stoT st1 i (.lst ws) D.nx) D.ex
def lDisp (a : DA) : DL := fun st k x => a st (fun rs st1 => match frs' rs with
  | some ws => ws.length ≤ sizeLine ∧ k ws st1
  | none => False) x
section
variable {X : Cx} {Z : Zx} {E : XS} {e a b : Expr} {es : List Expr} {da db : DE} {ds : DA} {dl : DL} {pos : Pos}
theorem pd_fz (h : PLD X Z E e dl) : PD X Z E e (dFz dl) := by
  refine pe_weak h fun σ H Q q => ?_
  obtain ⟨H0, F, G, pv, st, k, kx, wd, ss, hd, hk, hx⟩ := q
  refine ⟨H0, F, G, pv, st, _, kx, wd, ss, hd, fun H1 G1 H1' st1 p xs ws e1 wd1 hF ss1 rs k1 => ?_, hx⟩
  obtain ⟨wd2, e2⟩ := wd1.hand_fz hF
  exact hk _ _ _ _ _ _ (e1.trans e2) wd2 (ss1.mono e2) (.w (.lst upd_same (rs.mono e2))) k1
theorem tL_seq {K : PySem.W.Frag} {σ : L2.St} {H H0 F : Hp} {G : Fp} {pv : List V} {st : S} {kx : KX} {Q : VK} {k : List W → S → Prop} (wd : Wd H0 F G H) (ss : Sts K Z H0 pv σ st G) (hx : AccXe K Z E F pv σ H0 kx) (hd : dl st k kx)
    (h : ∀ H0' G' H' st' p xs ws, Ex H0 H0' → Wd H0' (upd F p (.lst xs)) G' H' → F p = none → Sts K Z H0' pv σ st' G' → Reps K Z H0' xs ws → k ws st' → Q (.ref p) H') : tL K Z E dl σ H Q := ⟨H0, F, G, pv, st, k, kx, wd, ss, hd, h, hx⟩
theorem pl_lst (h : PAD X Z E es ds) : PLD X Z E (.List es pos) (lDisp ds) := by
  refine pe_weak (pe_lst h) fun σ H Q q => ?_
  obtain ⟨H0, F, G, pv, st, k, kx, wd, ss, hd, hk, hx⟩ := q
  refine tA_seq wd ss hx hd fun H1 G1 H1' st1 vs rs e1 wd1 ss1 rr k1 => ?_
  cases q1 : frs' rs with
  | none => rw [q1] at k1; exact k1.elim
  | some ws =>
    rw [q1] at k1
    have r := rr.frs q1
    refine ⟨by rw [r.length]; exact k1.1, fun p hp => ?_⟩
    exact hk _ _ _ _ _ _ _ e1 (wd1.hand hp) (wd1.free hp).2.1 ss1 r k1.2
/-- a tuple of written items -/
def dTup (a : DA) : DE := fun st k x => a st (fun rs st1 => match frs' rs with
  | some ws => ws.length ≤ sizeLine ∧ k (.w (.tup ws)) st1
  | none => False) x
theorem pd_tup {x1} (h : PAD X Z E es ds) : PD X Z E (.Tuple es x1 pos) (dTup ds) := by
  refine pe_weak (pe_tup h) fun σ H Q q => ?_
  obtain ⟨H0, F, G, pv, st, k, kx, wd, ss, hd, hk, hx⟩ := q
  refine tA_seq wd ss hx hd fun H1 G1 H1' st1 vs rs e1 wd1 ss1 rr k1 => ?_
  cases q1 : frs' rs with
  | none => rw [q1] at k1; exact k1.elim
  | some ws =>
    rw [q1] at k1
    have r := rr.frs q1
    refine ⟨by rw [r.length]; exact k1.1, fun p hp => ?_⟩
    have g := Gr.one (o := .tup vs) wd1.ex hp
    exact hk _ _ _ _ _ _ (e1.trans g.e0) (wd1.grow g) (ss1.mono g.e0) (.w (.tup (.of upd_same) (r.mono g.e0))) k1.2
theorem stoT_ok {K : PySem.W.Frag} {σ : L2.St} {H H0 F : Hp} {G : Fp} {pv : List V} {st : S} {i : Nat} {v : V} {t : T} {Gv : Fp} {k : S → Prop} (wd : Wd H0 F (Gv ++ G) H) (ss : Sts K Z H0 pv σ st G) (r : RepT K Z H0 v t Gv) (h : stoT st i t k) :
    ∃ G', Wd H0 F G' H ∧ Sts K Z H0 pv (σ.set i (some v)) (put st i (.lo t)) G' ∧ k (put st i (.lo t)) := by
  unfold stoT at h
  have hn : ∀ n t, at' st i ≠ .mp n t := fun n t z => by rw [z] at h; exact h
  have h' : k (put st i (.lo t)) := by
    cases q : at' st i with
    | mp n t => exact absurd q (hn n t)
    | un => rw [q] at h; exact h
    | lo t => rw [q] at h; exact h
    | fr _ _ _ _ _ _ => rw [q] at h; exact h
  by_cases hl : i < st.length
  · obtain ⟨Ga, Gx, Gb, h1, h2⟩ := ss.store i hl hn
    subst h1
    refine ⟨Ga ++ Gv ++ Gb, ?_, h2 H0 v t Gv (Ex.refl _) r, h'⟩
    have w2 : Wd H0 F ((Gv ++ Ga) ++ Gx ++ Gb) H := by simpa only [List.append_assoc] using wd
    refine w2.less.perm ?_
    exact List.Perm.append_right _ List.perm_append_comm
  · refine ⟨G, ?_, ?_, h'⟩
    · have w2 : Wd H0 F ([] ++ Gv ++ G) H := wd
      exact w2.less
    · rw [put_over _ _ _ (Nat.le_of_not_lt hl), List.set_eq_of_length_le (by rw [ss.length]; exact Nat.le_of_not_lt hl)]
      exact ss
theorem z_setO {i : Nat} {x : Str} {pos' : Pos} (hN : X.N.Nodup) (hi : X.N[i]? = some x) (hx : Loc X.env.scope x) (he : PLD X Z E e dl) (hs : swapsWith e (some (.Name x pos')) pos.line X.env = pure false := by rfl) (hf : X.fn x = true ∨ X.env.scope.names.lookup x = some .local := by first | exact .inl rfl | exact .inr rfl | assumption) :
    PZ X Z E (.Assign [.Name x pos'] e pos) (dAsgO i dl) := by
  refine ps_weak (ps_set hN hi hx he hs hf) fun D σ H q => ?_
  obtain ⟨H0, F, G, pv, st, DD, wd, ss, hd, ha⟩ := q
  refine tL_seq wd ss ha.ex.at hd fun H1 G1 H1' st1 p xs ws e1 wd1 hF ss1 rs k1 => ?_
  obtain ⟨G', wd2, ss2, k2⟩ := stoT_ok (Gv := [(p, .lst xs)]) (wd1.hand_own hF) ss1 (.lst rs) k1
  exact ha.nx _ _ _ _ _ e1 wd2 ss2 k2
end

/-! ### reading lists and tuples: an item, a slice -/
def W.seq : W → Option (List W)
  | .lst ws => some ws
  | .tup ws => some ws
  | _ => none
/-- xs[i] of a list or a tuple, xs[i] there -/
def oIx : O2 := fun a b k => match a.seq, b with
  | some ws, .int i => ∃ w, atI ws i = some w ∧ k w
  | _, _ => False
theorem Reps.atI {K : PySem.W.Frag} {Z : Zx} {H : Hp} {xs : List V} {ws : List W} {i : Int} {w : W} (r : Reps K Z H xs ws) (h : L2.atI ws i = some w) : ∃ v, L2.atI xs i = some v ∧ Rep K Z H v w := by
  unfold L2.atI at h ⊢
  rw [r.length]
  obtain ⟨j, h1, h2⟩ := Option.bind_eq_some_iff.mp h
  obtain ⟨v, h3, h4⟩ := r.get h2
  exact ⟨v, by rw [h1]; exact h3, h4⟩
theorem opd_ix {K : PySem.W.Frag} {Z : Zx} : OpD K Z (rIx K) oIx := by
  intro H0 H v1 w1 v2 w2 k Q e r1 r2 o f
  unfold oIx at o
  cases w1 with
  | lst ws =>
    cases w2 with
    | int i =>
      obtain ⟨w, h, kw⟩ := o
      obtain ⟨p, xs, rfl, hs, rs⟩ := r1.lst_of e
      obtain ⟨v, h1, h2⟩ := rs.atI h
      exact .inl ⟨p, xs, i, v, rfl, r2.int_of, .of hs, h1, f.same e h2 kw⟩
    | _ => exact o.elim
  | tup ws =>
    cases w2 with
    | int i =>
      obtain ⟨w, h, kw⟩ := o
      obtain ⟨p, xs, rfl, hs, rs⟩ := r1.tup_of e
      obtain ⟨v, h1, h2⟩ := rs.atI h
      exact .inr (.inl ⟨p, xs, i, v, rfl, r2.int_of, hs, h1, f.same e h2 kw⟩)
    | _ => exact o.elim
  | _ => cases w2 <;> exact o.elim
/-- part of a slice -/
abbrev DO := S → (Option Int → S → Prop) → KX → Prop
def oPart (d : DE) : DO := fun st k x => d st (fun r st1 => match r with
  | .w (.int i) => k (some i) st1
  | _ => False) x
def oNone : DO := fun st k _ => k none st
def cutW (xs : List W) (lo hi : Option Int) : List W := (xs.drop (HT.sIx xs.length 0 lo)).take (HT.sIx xs.length xs.length hi - HT.sIx xs.length 0 lo)
/-- xs[a:b] of a list: a new one -/
def lCut (d : DE) (lo hi : DO) : DL := fun st k x => d st (fun r st1 => lo st1 (fun l st2 => hi st2 (fun h st3 => match r.val st3 with
  | some (.lst ws) => k (cutW ws l h) st3
  | some (.scr ns) => k (cutW (ns.map .int) l h) st3
  | _ => False) x) x) x
section
variable (K : PySem.W.Frag) (Z : Zx) (E : XS)
def AccO (F : Hp) (pv : List V) (σ : L2.St) (H0 : Hp) (k : Option Int → S → Prop) (Q : Option Int → Hp → Prop) : Prop :=
  ∀ H0' G' H' st' o, Ex H0 H0' → Wd H0' F G' H' → Sts K Z H0' pv σ st' G' → k o st' → Q o H'
def tO (d : DO) : TO := fun σ H Q => ∃ H0 F G pv st k kx, Wd H0 F G H ∧ Sts K Z H0 pv σ st G ∧ d st k kx ∧ AccO K Z F pv σ H0 k Q ∧ AccXe K Z E F pv σ H0 kx
end
def POD (X : Cx) (Z : Zx) (E : XS) (e : Option Expr) (d : DO) : Prop := PO X e (tO X.K Z E d)
section
variable {X : Cx} {Z : Zx} {E : XS} {e a b : Expr} {es : List Expr} {da db : DE} {ds : DA} {dl : DL} {dlo dhi : DO} {lo hi : Option Expr} {pos p2 : Pos}
theorem po_weak {oe : Option Expr} {t t' : TO} (h : PO X oe t) (k : ∀ σ H Q, t' σ H Q → t σ H Q) : PO X oe t' := ⟨fun pins s σ H Q I q => h.run pins s σ H Q I (k σ H Q q)⟩
theorem pod_none : POD X Z E none oNone := po_weak po_none fun σ H Q q => by
  obtain ⟨H0, F, G, pv, st, k, kx, wd, ss, hd, hk, hx⟩ := q
  exact hk _ _ _ _ _ (Ex.refl _) wd ss hd
theorem pod_some (h : PD X Z E e da) : POD X Z E (some e) (oPart da) := po_weak (po_some h) fun σ H Q q => by
  obtain ⟨H0, F, G, pv, st, k, kx, wd, ss, hd, hk, hx⟩ := q
  refine tE_seq wd ss hx hd fun H1 G1 H1' st1 v r e1 wd1 ss1 rr k1 => ?_
  cases rr with
  | pk _ => exact k1.elim
  | w rv => cases rv with
    | int => exact ⟨_, rfl, hk _ _ _ _ _ e1 wd1 ss1 k1⟩
    | _ => exact k1.elim
theorem Reps.cut {K : PySem.W.Frag} {H : Hp} {xs : List V} {ws : List W} (r : Reps K Z H xs ws) (l h : Option Int) : Reps K Z H (cutV xs l h) (cutW ws l h) := by
  unfold cutV cutW
  rw [r.length]
  exact (r.drop _).take _
theorem pl_cut (he : PD X Z E e da) (hl : POD X Z E lo dlo) (hu : POD X Z E hi dhi) : PLD X Z E (.Subscript e (.Slice lo hi none p2) pos) (lCut da dlo dhi) := by
  refine pe_weak (pe_slice sl_list he hl hu) fun σ H Q q => ?_
  obtain ⟨H0, F, G, pv, st, k, kx, wd, ss, hd, hk, hx⟩ := q
  refine tE_seq wd ss hx hd fun H1 G1 H1' st1 v r e1 wd1 ss1 rr k1 => ?_
  refine ⟨H1, F, G1, pv, st1, _, kx, wd1, ss1, k1, fun H2 G2 H2' st2 l e2 wd2 ss2 k2 => ?_, hx.up e1⟩
  refine ⟨H2, F, G2, pv, st2, _, kx, wd2, ss2, k2, fun H3 G3 H3' st3 h e3 wd3 ss3 k3 => ?_, hx.up (e1.trans e2)⟩
  replace k3 : (match r.val st3 with | some (W.lst ws) => k (cutW ws l h) st3 | some (W.scr ns) => k (cutW (ns.map .int) l h) st3 | _ => False) := k3
  cases q1 : r.val st3 with
  | none => rw [q1] at k3; exact k3.elim
  | some w =>
    rw [q1] at k3
    cases w with
    | lst ws =>
      have rp := (rr.mono (e2.trans e3)).peek ss3 wd3 q1
      obtain ⟨p, xs, rfl, hs, rs⟩ := rp.lst_of wd3.ex
      refine ⟨p, xs, rfl, .of hs, fun p' hp => ?_⟩
      exact hk _ _ _ _ _ _ _ (e1.trans (e2.trans e3)) (wd3.hand hp) (wd3.free hp).2.1 ss3 (rs.cut l h) k3
    | scr ns =>
      have rp := (rr.mono (e2.trans e3)).peek ss3 wd3 q1
      obtain ⟨p, rfl, hs⟩ := rp.scr_of wd3.ex
      refine ⟨p, _, rfl, hs, fun p' hp => ?_⟩
      exact hk _ _ _ _ _ _ _ (e1.trans (e2.trans e3)) (wd3.hand hp) (wd3.free hp).2.1 ss3 ((Reps.map _ _ (fun _ => .int) ns).cut l h) k3
    | _ => exact k3.elim
end
end Y
namespace Y
open PySem L2
open Evl (Ex)

/-! ### slots forgotten -/
theorem at_put : ∀ (st : S) (i j : Nat) (x : Sl), at' (put st i x) j = if i = j ∧ i < st.length then x else at' st j
  | [], i, j, x => by
    rw [if_neg (fun z => absurd z.2 (Nat.not_lt_zero _))]
    rfl
  | s :: l, 0, 0, x => by rw [if_pos ⟨rfl, Nat.succ_pos _⟩]; rfl
  | s :: l, 0, j + 1, x => by rw [if_neg (fun z => by cases z.1)]; rfl
  | s :: l, i + 1, 0, x => by rw [if_neg (fun z => by cases z.1)]; rfl
  | s :: l, i + 1, j + 1, x => by
    show at' (put l i x) j = _
    rw [at_put l i j x]
    by_cases h : i = j ∧ i < l.length
    · rw [if_pos h, if_pos ⟨congrArg Nat.succ h.1, Nat.succ_lt_succ h.2⟩]
    · rw [if_neg h, if_neg (fun z => h ⟨Nat.succ.inj z.1, Nat.lt_of_succ_lt_succ z.2⟩)]
      rfl
theorem at_over : ∀ (st : S) (j : Nat), st.length ≤ j → at' st j = .un
  | [], _, _ => rfl
  | _ :: _, 0, h => absurd h (Nat.not_succ_le_zero _)
  | _ :: l, j + 1, h => at_over l j (Nat.le_of_succ_le_succ h)
theorem at_wipe {st : S} : ∀ {vs : List Nat} {v : Nat}, v ∈ vs → at' (wipeS st vs) v = .un
  | u :: vs, v, h => by
    rw [wipeS, at_put]
    by_cases z : u = v ∧ u < (wipeS st vs).length
    · rw [if_pos z]
    · rw [if_neg z]
      rcases List.mem_cons.mp h with e | h
      · subst e
        exact at_over _ _ (Nat.le_of_not_lt fun q => z ⟨rfl, q⟩)
      · exact at_wipe h
section
variable {K : PySem.W.Frag} {Z : Zx} {H0 H F : Hp} {pv : List V}
/-- other values where the slots are not told -/
theorem Sts.alike : ∀ {σ st G σ'}, Sts K Z H0 pv σ st G → σ'.length = σ.length → (∀ j, at' st j = .un ∨ σ'[j]? = σ[j]?) → Sts K Z H0 pv σ' st G
  | _, _, _, [], .nil, _, _ => .nil
  | _, _, _, o' :: σ', .un h, hl, ha => .un (Sts.alike h (Nat.succ.inj hl) fun j => ha (j + 1))
  | _, _, _, o' :: σ', .lo (v := v) r h, hl, ha => by
    have e : o' = some v := by
      rcases ha 0 with z | z
      · cases z
      · exact Option.some.inj z
    subst e
    exact .lo r (Sts.alike h (Nat.succ.inj hl) fun j => ha (j + 1))
  | _, _, _, o' :: σ', .mp (v := v) p r h, hl, ha => by
    have e : o' = some v := by
      rcases ha 0 with z | z
      · cases z
      · exact Option.some.inj z
    subst e
    exact .mp p r (Sts.alike h (Nat.succ.inj hl) fun j => ha (j + 1))
  | _, _, _, o' :: σ', .fr (f := f) z r h, hl, ha => by
    have e : o' = some (.ref f) := by
      rcases ha 0 with z | z
      · cases z
      · exact Option.some.inj z
    subst e
    exact .fr z r (Sts.alike h (Nat.succ.inj hl) fun j => ha (j + 1))
theorem Sts.drop1 : ∀ {σ st G} (i : Nat), Sts K Z H0 pv σ st G → ∃ Ga Gx Gb, G = Ga ++ Gx ++ Gb ∧ Sts K Z H0 pv σ (put st i .un) (Ga ++ Gb)
  | _, _, _, i, .nil => ⟨[], [], [], rfl, .nil⟩
  | _, _, _, 0, .un (G := G) h => ⟨[], [], G, rfl, .un h⟩
  | _, _, _, 0, .lo (G1 := G1) (G2 := G2) r h => ⟨[], G1, G2, rfl, .un h⟩
  | _, _, _, 0, .mp (G1 := G1) (G2 := G2) p r h => ⟨[], G1, G2, rfl, .un h⟩
  | _, _, _, 0, .fr (G1 := G1) (G2 := G2) _ r h => ⟨[], G1, G2, rfl, .un h⟩
  | _, _, _, i + 1, .un h => by
    obtain ⟨Ga, Gx, Gb, h1, h2⟩ := Sts.drop1 i h
    exact ⟨Ga, Gx, Gb, h1, .un h2⟩
  | _, _, _, i + 1, .lo (G1 := Gy) r h => by
    obtain ⟨Ga, Gx, Gb, h1, h2⟩ := Sts.drop1 i h
    exact ⟨Gy ++ Ga, Gx, Gb, by rw [h1]; simp only [List.append_assoc], Sts.cast (.lo r h2) (by simp only [List.append_assoc])⟩
  | _, _, _, i + 1, .mp (G1 := Gy) p r h => by
    obtain ⟨Ga, Gx, Gb, h1, h2⟩ := Sts.drop1 i h
    exact ⟨Gy ++ Ga, Gx, Gb, by rw [h1]; simp only [List.append_assoc], Sts.cast (.mp p r h2) (by simp only [List.append_assoc])⟩
  | _, _, _, i + 1, .fr (G1 := Gy) z r h => by
    obtain ⟨Ga, Gx, Gb, h1, h2⟩ := Sts.drop1 i h
    exact ⟨Gy ++ Ga, Gx, Gb, by rw [h1]; simp only [List.append_assoc], Sts.cast (.fr z r h2) (by simp only [List.append_assoc])⟩
theorem Sts.dropAll {σ : L2.St} {st : S} {G : Fp} (wd : Wd H0 F G H) (ss : Sts K Z H0 pv σ st G) : ∀ vs, ∃ G', Wd H0 F G' H ∧ Sts K Z H0 pv σ (wipeS st vs) G'
  | [] => ⟨G, wd, ss⟩
  | v :: vs => by
    obtain ⟨G1, wd1, ss1⟩ := Sts.dropAll wd ss vs
    obtain ⟨Ga, Gx, Gb, h1, h2⟩ := ss1.drop1 v
    subst h1
    exact ⟨_, wd1.less, h2⟩
end
/-! ### targets -/
section
variable (K : PySem.W.Frag) (Z : Zx)
structure AccG (F : Hp) (pv : List V) (H0 : Hp) (k : S → Prop) (Q : L2.St → Hp → Prop) : Prop where
  tabs : TabF Z F
  run : AccS K Z F pv H0 k Q
instance {F : Hp} {pv : List V} {H0 : Hp} {k : S → Prop} {Q : L2.St → Hp → Prop} : CoeFun (AccG K Z F pv H0 k Q) (fun _ => AccS K Z F pv H0 k Q) := ⟨AccG.run⟩
def tG (g : DG) : TG := fun v σ H Q => ∃ H0 F G pv st w k, Wd H0 F G H ∧ Sts K Z H0 pv σ st G ∧ Rep K Z H0 v w ∧ g w st k ∧ AccG K Z F pv H0 k Q
def tGs (g : DGs) : TGs := fun vs σ H Q => ∃ H0 F G pv st ws k, Wd H0 F G H ∧ Sts K Z H0 pv σ st G ∧ Reps K Z H0 vs ws ∧ g ws st k ∧ AccG K Z F pv H0 k Q
end
def PGD (X : Cx) (Z : Zx) (e : Expr) (g : DG) : Prop := PG X e (tG X.K Z g)
def PGDs (X : Cx) (Z : Zx) (es : List Expr) (g : DGs) : Prop := PGs X es (tGs X.K Z g)
section
variable {X : Cx} {Z : Zx} {E : XS} {e a b : Expr} {es : List Expr} {da db : DE} {ds : DA} {dl : DL} {g : DG} {gs : DGs} {pos p2 : Pos}
theorem pg_weak {t t' : TG} (h : PG X e t) (k : ∀ v σ H Q, t' v σ H Q → t v σ H Q) : PG X e t' := ⟨fun pins s σ H v u Q I r q => h.run pins s σ H v u Q I r (k v σ H Q q)⟩
theorem pgs_weak {t t' : TGs} (h : PGs X es t) (k : ∀ v σ H Q, t' v σ H Q → t v σ H Q) : PGs X es t' := ⟨fun pins s σ H v u Q I r q => h.run pins s σ H v u Q I r (k v σ H Q q)⟩
theorem pgd_name {i : Nat} {x : Str} (hN : X.N.Nodup) (hi : X.N[i]? = some x) (hx : Loc X.env.scope x) (hf : X.fn x = true ∨ X.env.scope.names.lookup x = some .local := by first | exact .inl rfl | exact .inr rfl | assumption) : PGD X Z (.Name x pos) (gN i) := by
  refine pg_weak (pg_name hN hi hx hf) fun v σ H Q q => ?_
  obtain ⟨H0, F, G, pv, st, w, k, wd, ss, r, hg, hk⟩ := q
  obtain ⟨G', wd2, ss2, k2⟩ := sto_ok wd ss r hg
  exact hk _ _ _ _ _ (Ex.refl _) wd2 ss2 k2
theorem pgds_nil : PGDs X Z [] gsNil := by
  refine pgs_weak pgs_nil fun v σ H Q q => ?_
  obtain ⟨H0, F, G, pv, st, w, k, wd, ss, r, hg, hk⟩ := q
  obtain ⟨e, hg⟩ := hg
  subst e
  cases r
  exact ⟨rfl, hk _ _ _ _ _ (Ex.refl _) wd ss hg⟩
theorem pgds_cons (h1 : PGD X Z e g) (h2 : PGDs X Z es gs) (hs : (assignEach (e :: es) X.env).map (·.2) = assign e X.env :: (assignEach es X.env).map (·.2) := by rfl) : PGDs X Z (e :: es) (gsCons g gs) := by
  refine pgs_weak (pgs_cons h1 h2 hs) fun v σ H Q q => ?_
  obtain ⟨H0, F, G, pv, st, ws, k, wd, ss, r, hg, hk⟩ := q
  cases r with
  | nil => exact hg.elim
  | cons r rr =>
    refine ⟨_, _, rfl, H0, F, G, pv, st, _, _, wd, ss, r, hg, ⟨hk.tabs, fun H1 G1 H1' σ1 st1 e1 wd1 ss1 k1 => ?_⟩⟩
    exact ⟨H1, F, G1, pv, st1, _, _, wd1, ss1, rr.mono e1, k1, ⟨hk.tabs, hk.run.up e1⟩⟩
/-- the target asks for as many names as there are -/
def gTn (n : Nat) (gs : DGs) : DG := fun w st k => match w with
  | .tup ws => ws.length = n ∧ gs ws st k
  | _ => False
theorem pgd_tup {k : Nat} {n : Nat} (hc : X.calm = true) (h : PGDs X Z es gs) (hn : (assignEach es X.env).length = n := by rfl) (hst : (assignEach es X.env).findIdx? (·.1) = none := by rfl) : PGD X Z (.Tuple es k pos) (gTn n gs) := by
  refine pg_weak (pg_tup hc h hn hst) fun v σ H Q q => ?_
  obtain ⟨H0, F, G, pv, st, w, k, wd, ss, r, hg, hk⟩ := q
  unfold gTn at hg
  cases w with
  | tup ws =>
    cases r with
    | tup hs rs => exact ⟨_, _, rfl, Evl.ex_t wd.ex hs, by rw [rs.length]; exact hg.1, H0, F, G, pv, st, ws, k, wd, ss, rs, hg.2, hk⟩
  | _ => exact hg.elim
theorem z_asgG {tg : Expr} (he : PD X Z E e da) (hg : PGD X Z tg g) (hs : swapsWithSole [tg] e pos.line X.env = pure false := by rfl) (hw : swappedStores [tg] e X.env = pure none := by rfl)
    (h1 : (assignEach [tg] X.env).map (·.2) = [assign tg X.env] := by rfl) : PZ X Z E (.Assign [tg] e pos) (dAsgG g da) := by
  refine ps_weak (ps_asg he hg hs hw h1) fun D σ H q => ?_
  obtain ⟨H0, F, G, pv, st, DD, wd, ss, hd, ha⟩ := q
  refine tE_seq wd ss ha.ex.at hd fun H1 G1 H1' st1 v r e1 wd1 ss1 rr k1 => ?_
  cases rr with
  | pk _ => exact k1.elim
  | w rv => exact ⟨H1, F, G1, pv, st1, _, _, wd1, ss1, rv, k1, ⟨ha.ex.tabs, ha.nx.up e1⟩⟩
/-- a, b = x, y -/
def dPar (i j : Nat) (a : DA) : DS := fun D st => a st (fun rs st1 => match rs with
  | [.w x, .w y] => sto st1 i (.fz x) fun st2 => sto st2 j (.fz y) D.nx
  | _ => False) D.ex
theorem z_par {i j : Nat} {x y : Str} {px py pt : Pos} {kt k2 pt2} (hc : X.calm = true) (hN : X.N.Nodup) (hi : X.N[i]? = some x) (hj : X.N[j]? = some y) (hij : i ≠ j)
    (hx : X.env.scope.names.lookup x = some .local) (hy : X.env.scope.names.lookup y = some .local) (ha : PAD X Z E [a, b] ds)
    (hw : swappedStores [.Tuple [.Name x px, .Name y py] kt pt] (.Tuple [a, b] k2 pt2) X.env = pure (some [x, y]))
    (hs : swapsWithSole [.Tuple [.Name x px, .Name y py] kt pt] (.Tuple [a, b] k2 pt2) pos.line X.env = pure false := by rfl) :
    PZ X Z E (.Assign [.Tuple [.Name x px, .Name y py] kt pt] (.Tuple [a, b] k2 pt2) pos) (dPar i j ds) := by
  refine ps_weak (ps_par hc hN hi hj hij hx hy ha hw hs) fun D σ H q => ?_
  obtain ⟨H0, F, G, pv, st, DD, wd, ss, hd, ha⟩ := q
  refine tA_seq wd ss ha.ex.at hd fun H1 G1 H1' st1 vs rs e1 wd1 ss1 rr k1 => ?_
  cases rr with
  | nil => exact k1.elim
  | cons r1 rr =>
    cases rr with
    | nil => cases r1 <;> exact k1.elim
    | cons r2 rr =>
      cases rr with
      | cons r3 rr => cases r1 <;> cases r2 <;> exact k1.elim
      | nil =>
        cases r1 with
        | pk _ => cases r2 <;> exact k1.elim
        | w r1 =>
          cases r2 with
          | pk _ => exact k1.elim
          | w r2 =>
            obtain ⟨G', wd2, ss2, k2⟩ := sto_ok wd1 ss1 r1 k1
            obtain ⟨G'', wd3, ss3, k3⟩ := sto_ok wd2 ss2 r2 k2
            exact ⟨_, _, rfl, ha.nx _ _ _ _ _ e1 wd3 ss3 k3⟩
end

/-! ### what a loop walks -/
section
variable (K : PySem.W.Frag) (Z : Zx) (E : XS)
/-- the iterator yields these, one by one -/
def ItOk (H0 : Hp) (J : It) (ws : List W) : Prop := ∀ (i : Nat) (H Hc : Hp), Ex H0 Hc → Ex Hc H → (ws.length ≤ i → J.stop i H) ∧ ∀ w, ws[i]? = some w → J.go i H ∧ ∀ x H', J.yld i H x H' → ∃ Hc', Gr Hc H Hc' H' ∧ Rep K Z Hc' x w
def AccI (F : Hp) (pv : List V) (σ : L2.St) (H0 : Hp) (k : List W → S → Prop) (R : It → Hp → Prop) : Prop :=
  ∀ H0' G' H' st' J ws, Ex H0 H0' → Wd H0' F G' H' → Sts K Z H0' pv σ st' G' → ItOk K Z H0' J ws → k ws st' → R J H'
def tI (d : DI) : TI := fun σ H R => ∃ H0 F G pv st k kx, Wd H0 F G H ∧ Sts K Z H0 pv σ st G ∧ d st k kx ∧ AccI K Z F pv σ H0 k R ∧ AccXe K Z E F pv σ H0 kx
end
def PID (X : Cx) (Z : Zx) (E : XS) (tg e : Expr) (d : DI) : Prop := PI X tg e (tI X.K Z E d)
section
variable {X : Cx} {Z : Zx} {E : XS} {tg e a b : Expr} {es : List Expr} {da db : DE} {ds : DA} {dl : DL} {di : DI} {g : DG} {gs : DGs} {body : List Stmt} {d : DS} {ta : DT} {pos p2 : Pos}
theorem pi_weak {t t' : TI} (h : PI X tg e t) (k : ∀ σ H Q, t' σ H Q → t σ H Q) : PI X tg e t' := ⟨fun pins s σ H Q I q => h.run pins s σ H Q I (k σ H Q q)⟩
theorem it_list {K : PySem.W.Frag} {H0 : Hp} {a : Addr} {xs : List V} {ws : List W} (h : SqL K H0 a xs) (r : Reps K Z H0 xs ws) : ItOk K Z H0 (Itl K a) ws := fun i H Hc e e' => by
  have hs := Evl.ex_l (e.trans e') h
  refine ⟨fun hl => ⟨xs, hs, by rw [r.length]; exact hl⟩, fun w hw => ?_⟩
  obtain ⟨v, h1, h2⟩ := r.get hw
  refine ⟨⟨xs, v, hs, h1⟩, fun x H' y => ?_⟩
  obtain ⟨rfl, y⟩ := y
  have := y xs hs
  rw [h1] at this; cases this
  exact ⟨Hc, Gr.refl e', h2.mono e⟩
theorem it_tup {K : PySem.W.Frag} {H0 : Hp} {a : Addr} {xs : List V} {ws : List W} (h : SqT K H0 a xs) (r : Reps K Z H0 xs ws) : ItOk K Z H0 (Itt K a) ws := fun i H Hc e e' => by
  have hs := Evl.ex_t (e.trans e') h
  refine ⟨fun hl => ⟨xs, hs, by rw [r.length]; exact hl⟩, fun w hw => ?_⟩
  obtain ⟨v, h1, h2⟩ := r.get hw
  refine ⟨⟨xs, v, hs, h1⟩, fun x H' y => ?_⟩
  obtain ⟨rfl, y⟩ := y
  have := y xs hs
  rw [h1] at this; cases this
  exact ⟨Hc, Gr.refl e', h2.mono e⟩
theorem it_range {K : PySem.W.Frag} {H0 : Hp} (lo : Int) (n : Nat) : ItOk K Z H0 (Itr lo n) ((List.range n).map fun (i : Nat) => W.int (lo + i)) := fun i H Hc e e' => by
  refine ⟨fun hl => show n ≤ i by simpa using hl, fun w hw => ?_⟩
  rw [List.getElem?_map] at hw
  obtain ⟨j, h1, rfl⟩ := Option.map_eq_some_iff.mp hw
  obtain ⟨h2, h3⟩ := List.getElem?_eq_some_iff.mp h1
  rw [List.getElem_range] at h3
  subst h3
  refine ⟨show i < n by simpa using h2, fun x H' y => ?_⟩
  obtain ⟨rfl, rfl⟩ := y
  exact ⟨Hc, Gr.refl e', .int⟩
def iRg1 (a : DA) : DI := fun st k x => a st (fun rs st1 => match rs with
  | [.w (.int j)] => (-(2 ^ 62) ≤ j ∧ j < 2 ^ 62) ∧ k ((List.range j.toNat).map fun (i : Nat) => .int (0 + i)) st1
  | _ => False) x
theorem pid_range1 {p pos : Pos} (hg : Gl X "range") (hm : X.mg "range" = none) (ha : PAD X Z E [a] ds) (hs : starEach [a] X.env = [(false, eval a X.env)] := by rfl) : PID X Z E tg (.Call (.Name "range" p) [a] [] pos) (iRg1 ds) := by
  refine pi_weak (pi_range1 hg hm ha hs) fun σ H Q q => ?_
  obtain ⟨H0, F, G, pv, st, k, kx, wd, ss, hd, hk, hx⟩ := q
  refine tA_seq wd ss hx hd fun H1 G1 H1' st1 vs rs e1 wd1 ss1 rr k1 => ?_
  cases rr with
  | nil => exact k1.elim
  | cons r rr =>
    cases rr with
    | cons r2 rr => cases r with
      | pk _ => exact k1.elim
      | w rv => cases rv <;> exact k1.elim
    | nil => cases r with
      | pk _ => exact k1.elim
      | w rv => cases rv with
        | int => exact ⟨_, rfl, k1.1.1, k1.1.2, hk _ _ _ _ _ _ e1 wd1 ss1 (it_range 0 _) k1.2⟩
        | _ => exact k1.elim
/-! ### for -/
theorem z_for {fg : List Nat} (hp : PassesOwn (model X.prog X.w) X.A X.env X.xe) (hc : X.calm = true) (hi : PID X Z E tg e di) (hg : PGD X Z tg g) (hb : PZs X Z E body d)
    (hs : ∀ x, foldedSetIterable e X.env x = pure x := by intro _; rfl) : PZ X Z E (.For tg e body [] pos) (dFor fg di g d) := by
  refine ps_weak (ps_for hp hc hi hg hb hs) fun D σ H q => ?_
  obtain ⟨H0, F, G, pv, st, DD, wd, ss, hd, ha⟩ := q
  refine ⟨H0, F, G, pv, st, _, DD.ex, wd, ss, hd, fun H1 G1 H1' st1 J ws e1 wd1 ss1 it k1 => ?_, ha.ex.at⟩
  refine ⟨fun i m σ H => m = ws.length - i ∧ ∃ H2 G2 st2, Ex H1 H2 ∧ Wd H2 F G2 H ∧ Sts X.K Z H2 pv σ st2 G2 ∧ forW fg g d DD (ws.drop i) st2, ⟨_, rfl, H1, G1, st1, Ex.refl _, wd1, ss1, k1⟩, ?_⟩
  rintro i m σ2 H2' ⟨rfl, H2, G2, st2, e2, wd2, ss2, k2⟩
  obtain ⟨hstop, hgo⟩ := it i H2' H2 e2 wd2.ex
  obtain ⟨G2', wd2', ss2'⟩ := ss2.dropAll wd2 fg
  by_cases hl : ws.length ≤ i
  · refine .inl ⟨hstop hl, ?_⟩
    rw [List.drop_eq_nil_of_le hl] at k2
    exact ha.nx _ _ _ _ _ (e1.trans e2) wd2' ss2' k2
  · have hlt : i < ws.length := Nat.lt_of_not_le hl
    obtain ⟨go, step⟩ := hgo ws[i] (List.getElem?_eq_getElem hlt)
    refine .inr ⟨go, fun σ' H' => ∃ H3 G3 st3, Ex H1 H3 ∧ Wd H3 F G3 H' ∧ Sts X.K Z H3 pv σ' st3 G3 ∧ forW fg g d DD (ws.drop (i + 1)) st3, fun σ' H' ⟨H3, G3, st3, e3, wd3, ss3, k3⟩ => ⟨ws.length - (i + 1), by omega, rfl, H3, G3, st3, e3, wd3, ss3, k3⟩, fun x H' y => ?_⟩
    obtain ⟨Hc, gr, rx⟩ := step x H' y
    rw [List.drop_eq_getElem_cons hlt] at k2
    refine ⟨Hc, F, G2', pv, wipeS st2 fg, ws[i], _, wd2'.grow gr, ss2'.mono gr.e0, rx, k2, ⟨ha.ex.tabs, fun H4 G4 H4' σ4 st4 e4 wd4 ss4 k4 => ?_⟩⟩
    have e14 : Ex H1 H4 := e2.trans (gr.e0.trans e4)
    refine tS_seq wd4 ss4 k4 ⟨fun H5 G5 H5' σ5 st5 e5 wd5 ss5 k5 => ⟨H5, G5, st5, e14.trans e5, wd5, ss5, k5⟩, ha.rt.up (e1.trans e14), fun H5 G5 H5' σ5 st5 e5 wd5 ss5 k5 => ?_, fun H5 G5 H5' σ5 st5 e5 wd5 ss5 k5 => ⟨H5, G5, st5, e14.trans e5, wd5, ss5, k5⟩, ha.ex.up (e1.trans e14)⟩
    obtain ⟨G6, wd6, ss6⟩ := ss5.dropAll wd5 fg
    exact ha.nx _ _ _ _ _ (e1.trans (e14.trans e5)) wd6 ss6 k5
end
end Y
namespace Y
open PySem L2
open Evl (Ex)

/-! ### slots forgotten -/
theorem wipe_get (σ : L2.St) (j : Nat) : ∀ vs, (wipe σ vs)[j]? = if j ∈ vs then (σ[j]?).map (fun _ => none) else σ[j]?
  | [] => by simp [wipe]
  | v :: vs => by
    unfold wipe
    rw [List.getElem?_set]
    by_cases h : v = j
    · subst h
      rw [if_pos rfl, if_pos (List.mem_cons_self), wipe_length]
      by_cases hl : v < σ.length
      · rw [if_pos hl, List.getElem?_eq_getElem hl]; rfl
      · rw [if_neg hl, List.getElem?_eq_none (Nat.le_of_not_lt hl)]; rfl
    · rw [if_neg h, wipe_get σ j vs]
      by_cases hm : j ∈ vs
      · rw [if_pos hm, if_pos (List.mem_cons_of_mem _ hm)]
      · rw [if_neg hm, if_neg (fun z => (List.mem_cons.mp z).elim (fun e => h e.symm) hm)]
theorem wipe_set {σ : L2.St} {i : Nat} {x : Option V} {vs : List Nat} (h : i ∈ vs) : wipe (σ.set i x) vs = wipe σ vs := by
  refine List.ext_getElem? fun j => ?_
  rw [wipe_get, wipe_get, List.getElem?_set]
  by_cases hm : j ∈ vs
  · rw [if_pos hm, if_pos hm]
    by_cases e : i = j
    · subst e
      rw [if_pos rfl]
      by_cases hl : i < σ.length
      · rw [if_pos hl, List.getElem?_eq_getElem hl]; rfl
      · rw [if_neg hl, List.getElem?_eq_none (Nat.le_of_not_lt hl)]
    · rw [if_neg e]
  · rw [if_neg hm, if_neg hm, if_neg (fun e => hm (by rw [← e]; exact h))]

/-! ### comprehensions -/
inductive CT where
  | one (i : Nat) | tup (is : List Nat)
def gsN : List Nat → DGs
  | [] => gsNil
  | i :: is => gsCons (gN i) (gsN is)
def CT.g : CT → DG
  | .one i => gN i
  | .tup is => gTn is.length (gsN is)
def CT.own : CT → List Nat
  | .one i => [i]
  | .tup is => is
def gNames : List Nat → TGs
  | [] => gNil
  | i :: is => gCons (gName i) (gNames is)
def CT.tg (K : PySem.W.Frag) : CT → TG
  | .one i => gName i
  | .tup is => gTup K is.length (gNames is)
def compW (ct : CT) (cond : DT) (elt : DE) : List W → List W → S → (List W → S → Prop) → Prop
  | [], acc, st, k => k acc st
  | w :: ws, acc, st, k => ct.g w st fun st1 => cond st1 (fun b st2 =>
      (b = true → elt st2 (fun r st3 => match r with
        | .w v => acc.length < sizeLine ∧ compW ct cond elt ws (acc ++ [v]) (wipeS st3 ct.own) k
        | .pk _ => False) (fun _ _ => False)) ∧
      (b = false → compW ct cond elt ws acc (wipeS st2 ct.own) k)) (fun _ _ => False)
/-- [elt for ct in src if cond] -/
def lComp (src : DI) (ct : CT) (cond : DT) (elt : DE) : DL := fun st k x => src st (fun ws st1 => compW ct cond elt ws [] (wipeS st1 ct.own) k) x
def tYes' : DT := fun st k _ => k true st
def PTsD (X : Cx) (Z : Zx) (E : XS) (es : List Expr) (d : DT) : Prop := PTs X es (tTs X.K Z E d)
section
variable {X : Cx} {Z : Zx} {E : XS} {tg e elt a b : Expr} {es ifs : List Expr} {da db de : DE} {ds : DA} {dl : DL} {di : DI} {g : DG} {gs : DGs} {body : List Stmt} {d : DS} {ta : DT} {pos p2 : Pos}
theorem ptsd_nil : PTsD X Z E [] tYes' := by
  refine ⟨fun pins s σ H Q I q => ?_⟩
  obtain ⟨H0, F, G, pv, st, k, kx, wd, ss, hd, hk, hx⟩ := q
  exact pts_nil.run pins s σ H Q I (hk _ _ _ _ _ (Ex.refl _) wd ss hd)
theorem ptsd_one {c : Expr} (h : PTD X Z E c ta) : PTsD X Z E [c] ta := pts_one h
theorem gsN_ok {K : PySem.W.Frag} {F H0 H : Hp} {pv : List V} {Q : L2.St → Hp → Prop} : ∀ (is : List Nat) {own : List Nat} {xs : List V} {ws : List W} {σ : L2.St} {st : S} {G : Fp} {k : S → Prop}, (∀ i ∈ is, i ∈ own) → Wd H0 F G H → Sts K Z H0 pv σ st G → Reps K Z H0 xs ws → gsN is ws st k →
    (∀ σ2 st2 G2, Wd H0 F G2 H → Sts K Z H0 pv σ2 st2 G2 → wipe σ2 own = wipe σ own → σ2.length = σ.length → k st2 → Q σ2 H) → gNames is xs σ H Q
  | [], own, xs, ws, σ, st, G, k, ho, wd, ss, r, hg, hk => by
    obtain ⟨e, hg⟩ := hg
    subst e
    cases r
    exact ⟨rfl, hk _ _ _ wd ss rfl rfl hg⟩
  | i :: is, own, xs, ws, σ, st, G, k, ho, wd, ss, r, hg, hk => by
    cases r with
    | nil => exact hg.elim
    | cons r rr =>
      obtain ⟨G', wd2, ss2, k2⟩ := sto_ok (i := i) (k := fun st1 => gsN is _ st1 k) wd ss r hg
      refine ⟨_, _, rfl, gsN_ok is (fun j hj => ho j (List.mem_cons_of_mem _ hj)) wd2 ss2 rr k2 fun σ2 st2 G2 wd3 ss3 hw hl k3 => hk σ2 st2 G2 wd3 ss3 ?_ ?_ k3⟩
      · rw [hw, wipe_set (ho i List.mem_cons_self)]
      · rw [hl, List.length_set]
theorem ct_ok {K : PySem.W.Frag} {F H0 H : Hp} {pv : List V} {Q : L2.St → Hp → Prop} (ct : CT) {v : V} {w : W} {σ : L2.St} {st : S} {G : Fp} {k : S → Prop} (wd : Wd H0 F G H) (ss : Sts K Z H0 pv σ st G) (r : Rep K Z H0 v w) (hg : ct.g w st k)
    (hk : ∀ σ2 st2 G2, Wd H0 F G2 H → Sts K Z H0 pv σ2 st2 G2 → wipe σ2 ct.own = wipe σ ct.own → σ2.length = σ.length → k st2 → Q σ2 H) : ct.tg K v σ H Q := by
  cases ct with
  | one i =>
    obtain ⟨G', wd2, ss2, k2⟩ := sto_ok wd ss r hg
    exact hk _ _ _ wd2 ss2 (wipe_set (List.mem_singleton.mpr rfl)) (List.length_set ..) k2
  | tup is =>
    cases w with
    | tup ws =>
      replace hg : ws.length = is.length ∧ gsN is ws st k := hg
      cases r with
      | tup hs rs => exact ⟨_, _, rfl, Evl.ex_t wd.ex hs, by rw [rs.length]; exact hg.1, gsN_ok is (fun i hi => hi) wd ss rs hg.2 hk⟩
    | _ => exact hg.elim
theorem lc_ok {σ : L2.St} {H : Hp} {Q : VK} {ct : CT} (q : tL X.K Z E (lComp di ct ta de) σ H Q) : tLc (tI X.K Z E di) (ct.tg X.K) (tTs X.K Z E0s ta) (tE X.K Z E0s de) ct.own σ H Q := by
  obtain ⟨H0, F, G, pv, st, k, kx, wd, ss, hd, hk, hx⟩ := q
  refine ⟨H0, F, G, pv, st, _, kx, wd, ss, hd, fun H1 G1 H1' st1 J ws e1 wd1 ss1 it k1 => ?_, hx⟩
  intro D hD
  have hFD := (wd1.free hD).2.1
  obtain ⟨G1', wd1', ss1'⟩ := ss1.dropAll (wd1.hand (o := .lst []) hD) ct.own
  refine ⟨fun i m H => m = ws.length - i ∧ ∃ H2 G2 st2 aV aW, Ex H1 H2 ∧ Wd H2 (upd F D (.lst aV)) G2 H ∧ Sts X.K Z H2 pv σ st2 G2 ∧ (∀ v ∈ ct.own, at' st2 v = .un) ∧ Reps X.K Z H2 aV aW ∧ compW ct ta de (ws.drop i) aW st2 k,
    ⟨_, rfl, H1, G1', _, [], [], Ex.refl _, wd1', ss1', fun v hv => at_wipe hv, .nil, k1⟩, ?_⟩
  rintro i m H2' ⟨rfl, H2, G2, st2, aV, aW, e2, wd2, ss2, un2, ra, k2⟩
  obtain ⟨hstop, hgo⟩ := it i H2' H2 e2 wd2.ex
  by_cases hl : ws.length ≤ i
  · refine .inl ⟨hstop hl, ?_⟩
    rw [List.drop_eq_nil_of_le hl] at k2
    exact hk _ _ _ _ _ _ _ (e1.trans e2) wd2 hFD ss2 ra k2
  · have hlt : i < ws.length := Nat.lt_of_not_le hl
    obtain ⟨go, step⟩ := hgo ws[i] (List.getElem?_eq_getElem hlt)
    let Nx : Hp → Prop := fun H' => ∃ H3 G3 st3 bV bW, Ex H1 H3 ∧ Wd H3 (upd F D (.lst bV)) G3 H' ∧ Sts X.K Z H3 pv σ st3 G3 ∧ (∀ v ∈ ct.own, at' st3 v = .un) ∧ Reps X.K Z H3 bV bW ∧ compW ct ta de (ws.drop (i + 1)) bW st3 k
    refine .inr ⟨go, Nx, fun H' ⟨H3, G3, st3, bV, bW, e3, wd3, ss3, un3, rb, k3⟩ => ⟨ws.length - (i + 1), by omega, rfl, H3, G3, st3, bV, bW, e3, wd3, ss3, un3, rb, k3⟩, fun x H' y => ?_⟩
    obtain ⟨Hc, gr, rx⟩ := step x H' y
    rw [List.drop_eq_getElem_cons hlt] at k2
    have ssw : Sts X.K Z H2 pv (wipe σ ct.own) st2 G2 := ss2.alike (wipe_length _ _) fun j => by
      by_cases hj : j ∈ ct.own
      · exact .inl (un2 j hj)
      · exact .inr (by rw [wipe_get, if_neg hj])
    refine ct_ok ct (wd2.grow gr) (ssw.mono gr.e0) rx k2 fun σ3 st3 G3 wd3 ss3 hw hl3 k3 => ?_
    have hw' : wipe σ3 ct.own = wipe σ ct.own := by
      rw [hw]
      refine List.ext_getElem? fun j => ?_
      rw [wipe_get, wipe_get]
      by_cases hj : j ∈ ct.own
      · rw [if_pos hj, if_pos hj]; cases σ[j]? <;> rfl
      · rw [if_neg hj, if_neg hj]
        all_goals rfl
    have hl3' : σ3.length = σ.length := by rw [hl3, wipe_length]
    refine ⟨hw', ?_⟩
    have e1c : Ex H1 Hc := e2.trans gr.e0
    -- the turn's end
    have back : ∀ {H5 H5' : Hp} {G5 : Fp} {st5 : S} {o : HO}, Wd H5 (upd F D o) G5 H5' → Sts X.K Z H5 pv σ3 st5 G5 → ∃ G6, Wd H5 (upd F D o) G6 H5' ∧ Sts X.K Z H5 pv σ (wipeS st5 ct.own) G6 := fun {H5 H5' G5 st5 o} wd5 ss5 => by
      obtain ⟨G6, wd6, ss6⟩ := ss5.dropAll wd5 ct.own
      refine ⟨G6, wd6, ss6.alike hl3'.symm fun j => ?_⟩
      by_cases hj : j ∈ ct.own
      · exact .inl (at_wipe hj)
      · have := congrArg (fun l => l[j]?) hw'
        simp only [wipe_get, if_neg hj] at this
        exact .inr this.symm
    refine tT_seq wd3 ss3 (hx.noxU hFD) k3 fun H4 G4 H4' st4 b e4 wd4 ss4 k4 => ?_
    cases b with
    | false =>
      refine iteF ?_
      obtain ⟨G6, wd6, ss6⟩ := back wd4 ss4
      exact ⟨H4, G6, _, aV, aW, e1c.trans e4, wd6, ss6, fun v hv => at_wipe hv, ra.mono (gr.e0.trans e4), k4.2 rfl⟩
    | true =>
      refine iteT ?_
      refine tE_seq wd4 ss4 (hx.noxU hFD) (k4.1 rfl) fun H5 G5 H5' st5 v r e5 wd5 ss5 rr k5 => ?_
      cases rr with
      | pk _ => exact k5.elim
      | w rv =>
        have ra5 := ra.mono (gr.e0.trans (e4.trans e5))
        refine ⟨aV, wd5.hand_at, by rw [ra5.length]; exact k5.1, ?_⟩
        obtain ⟨G6, wd6, ss6⟩ := back (wd5.hand_write (o' := .lst (aV ++ [v])) hFD) ss5
        exact ⟨H5, G6, _, _, _, e1c.trans (e4.trans e5), wd6, ss6, fun v hv => at_wipe hv, ra5.append (.one rv), k5.2⟩
theorem pl_comp {ct : CT} {scope : Scope} {own : List (Str × Nat)} (hc : X.calm = true) (hN : X.N.Nodup) (hi : PID X Z E tg e di) (ok : BlkOk X.N X.env.scope scope own) (how : own.map (·.2) = ct.own)
    (hg : ∀ (s : Shared) (H : Hp) (C : Addr) (cl : List (Str × Addr)) (fp : List Addr), PG (X.blk s H scope (compEnvC scope cl C X.env) fp) tg (ct.tg X.K))
    (ht : ∀ (s : Shared) (H : Hp) (C : Addr) (cl : List (Str × Addr)) (fp : List Addr), PTsD (X.blk s H scope (compEnvC scope cl C X.env) fp) Z E0s ifs ta)
    (he : ∀ (s : Shared) (H : Hp) (C : Addr) (cl : List (Str × Addr)) (fp : List Addr), PD (X.blk s H scope (compEnvC scope cl C X.env) fp) Z E0s elt de) (hs : ∀ x, foldedSetIterable e X.env x = pure x := by intro _; rfl) :
    PLD X Z E (.ListComp elt [⟨tg, e, ifs, 0⟩] scope pos) (lComp di ct ta de) := by
  have ht' : ∀ (s : Shared) (H : Hp) (C : Addr) (cl : List (Str × Addr)) (fp : List Addr), PTs (X.blk s H scope (compEnvC scope cl C X.env) fp) ifs (tTs X.K Z E0s ta) := ht
  have he' : ∀ (s : Shared) (H : Hp) (C : Addr) (cl : List (Str × Addr)) (fp : List Addr), PE (X.blk s H scope (compEnvC scope cl C X.env) fp) elt (tE X.K Z E0s de) := he
  have := pe_lc (pos := pos) hc hN hi ok hg ht' he' hs
  rw [how] at this
  exact pe_weak this fun _ _ _ => lc_ok
/-- name = [..] on one line, the name a local of the def: frozen | owned -/
theorem z_setLc {i : Nat} {y : Str} {py spos : Pos} {ct : CT} {scope : Scope} {own : List (Str × Nat)} (hc : X.calm = true) (hN : X.N.Nodup) (hy : X.N[i]? = some y) (hyl : X.env.scope.names.lookup y = some .local)
    (hsw : swapsWith (.ListComp elt [⟨tg, e, ifs, 0⟩] scope pos) (some (.Name y py)) spos.line X.env = pure true) (hi : PID X Z E tg e di) (ok : BlkOk X.N X.env.scope scope own) (how : own.map (·.2) = ct.own)
    (hg : ∀ (s : Shared) (H : Hp) (C : Addr) (cl : List (Str × Addr)) (fp : List Addr), PG (X.blk s H scope (compEnvC scope cl C X.env) fp) tg (ct.tg X.K))
    (ht : ∀ (s : Shared) (H : Hp) (C : Addr) (cl : List (Str × Addr)) (fp : List Addr), PTsD (X.blk s H scope (compEnvC scope cl C X.env) fp) Z E0s ifs ta)
    (he : ∀ (s : Shared) (H : Hp) (C : Addr) (cl : List (Str × Addr)) (fp : List Addr), PD (X.blk s H scope (compEnvC scope cl C X.env) fp) Z E0s elt de) (hs : ∀ x, foldedSetIterable e X.env x = pure x := by intro _; rfl) :
    PZ X Z E (.Assign [.Name y py] (.ListComp elt [⟨tg, e, ifs, 0⟩] scope pos) spos) (dAsg i (dFz (lComp di ct ta de))) := by
  have ht' : ∀ (s : Shared) (H : Hp) (C : Addr) (cl : List (Str × Addr)) (fp : List Addr), PTs (X.blk s H scope (compEnvC scope cl C X.env) fp) ifs (tTs X.K Z E0s ta) := ht
  have he' : ∀ (s : Shared) (H : Hp) (C : Addr) (cl : List (Str × Addr)) (fp : List Addr), PE (X.blk s H scope (compEnvC scope cl C X.env) fp) elt (tE X.K Z E0s de) := he
  have := ps_setLc hc hN hy hyl hsw hi ok hg ht' he' hs
  rw [how] at this
  refine ps_weak this fun D σ H q => ?_
  obtain ⟨H0, F, G, pv, st, DD, wd, ss, hd, ha⟩ := q
  refine lc_ok (tL_seq wd ss ha.ex.at hd fun H1 G1 H1' st1 p xs ws e1 wd1 hF ss1 rs k1 => ?_)
  obtain ⟨wd2, e2⟩ := wd1.hand_fz hF
  obtain ⟨G', wd3, ss3, k3⟩ := sto_ok wd2 (ss1.mono e2) (Rep.lst upd_same (rs.mono e2)) k1
  exact ha.nx _ _ _ _ _ (e1.trans e2) wd3 ss3 k3
end
end Y
namespace Y
open PySem L2
open Evl (Ex)

/-! ### dicts on data -/
def W.key : W → Option Key
  | .int i => some (.inl i)
  | .str s => some (.inr s)
  | _ => none
section
variable {κ α : Type} [DecidableEq κ]
def lk (kvs : List (κ × α)) (k : κ) : Option α := (kvs.find? fun kv => decide (kv.1 = k)).map (·.2)
def pt (kvs : List (κ × α)) (k : κ) (v : α) : List (κ × α) :=
  if (kvs.any fun kv => decide (kv.1 = k)) = true then kvs.map (fun kv => if kv.1 = k then (kv.1, v) else kv) else kvs ++ [(k, v)]
def dp (kvs : List (κ × α)) (k : κ) : List (κ × α) := kvs.filter fun kv => decide (kv.1 ≠ k)
theorem lk_pos {p : κ × α} {r : List (κ × α)} {k : κ} (e : p.1 = k) : lk (p :: r) k = some p.2 := by simp [lk, List.find?_cons, e]
theorem lk_neg {p : κ × α} {r : List (κ × α)} {k : κ} (e : ¬ p.1 = k) : lk (p :: r) k = lk r k := by simp [lk, List.find?_cons, e]
end
section
variable {K : PySem.W.Frag} {Z : Zx} {H : Hp}
theorem RepK.lk {k : Key} : ∀ {kvs ws}, RepK K Z H kvs ws → match Y.lk ws k with
    | some w => ∃ v, valV kvs k = some v ∧ Rep K Z H v w
    | none => valV kvs k = none
  | _, _, .nil => rfl
  | _, _, .cons (k := k') (v := v) (w := w) (vs := vs) (ws := ws) r t => by
    by_cases e : k' = k
    · rw [lk_pos (p := (k', w)) e, valV_pos (p := (k', v)) e]; exact ⟨v, rfl, r⟩
    · rw [lk_neg (p := (k', w)) e, valV_neg (p := (k', v)) e]; exact RepK.lk t
theorem RepK.some {k : Key} {kvs ws w} (r : RepK K Z H kvs ws) (h : Y.lk ws k = some w) : ∃ v, valV kvs k = some v ∧ Rep K Z H v w := by
  have := r.lk (k := k)
  rw [h] at this; exact this
theorem RepK.none {k : Key} {kvs ws} (r : RepK K Z H kvs ws) (h : Y.lk ws k = none) : valV kvs k = none := by
  have := r.lk (k := k)
  rw [h] at this; exact this
theorem RepK.any {k : Key} : ∀ {kvs ws}, RepK K Z H kvs ws → (kvs.any fun kv => decide (kv.1 = k)) = ws.any fun kv => decide (kv.1 = k)
  | _, _, .nil => rfl
  | _, _, .cons r t => by rw [List.any_cons, List.any_cons, RepK.any t]
theorem RepK.repl {k : Key} {y : V} {u : W} (ry : Rep K Z H y u) : ∀ {kvs ws}, RepK K Z H kvs ws → RepK K Z H (kvs.map fun kv => if kv.1 = k then (kv.1, y) else kv) (ws.map fun kv => if kv.1 = k then (kv.1, u) else kv)
  | _, _, .nil => .nil
  | _, _, .cons (k := k') r t => by
    rw [List.map_cons, List.map_cons]
    by_cases e : k' = k
    · rw [if_pos e, if_pos e]; exact .cons ry (RepK.repl ry t)
    · rw [if_neg e, if_neg e]; exact .cons r (RepK.repl ry t)
theorem RepK.snoc {k : Key} {y : V} {u : W} (ry : Rep K Z H y u) : ∀ {kvs ws}, RepK K Z H kvs ws → RepK K Z H (kvs ++ [(k, y)]) (ws ++ [(k, u)])
  | _, _, .nil => .cons ry .nil
  | _, _, .cons r t => .cons r (RepK.snoc ry t)
theorem RepK.put {k : Key} {y : V} {u : W} {kvs ws} (r : RepK K Z H kvs ws) (ry : Rep K Z H y u) : RepK K Z H (putK kvs k y) (pt ws k u) := by
  unfold putK pt
  rw [r.any (k := k)]
  by_cases e : (ws.any fun kv => decide (kv.1 = k)) = true
  · rw [if_pos e, if_pos e]; exact r.repl ry
  · rw [if_neg e, if_neg e]; exact r.snoc ry
theorem RepK.drop {k : Key} : ∀ {kvs ws}, RepK K Z H kvs ws → RepK K Z H (dropK kvs k) (dp ws k)
  | _, _, .nil => .nil
  | _, _, .cons (k := k') (v := v) (w := w) (vs := vs) (ws := ws) r t => by
    have ih := RepK.drop (k := k) t
    unfold dropK dp at ih ⊢
    rw [List.filter_cons, List.filter_cons]
    by_cases e : k' = k
    · have a : ¬ decide (k' ≠ k) = true := by simp [e]
      rw [if_neg a, if_neg a]; exact ih
    · have a : decide (k' ≠ k) = true := by simp [e]
      rw [if_pos a, if_pos a]; exact .cons r ih
theorem rep_key {v : V} {w : W} {k : Key} (h : Rep K Z H v w) (e : w.key = some k) : v = kV k := by
  cases h <;> first | (cases e; rfl) | (simp [W.key] at e)
end
theorem RepP.key_of {K : PySem.W.Frag} {Z : Zx} {H0 H : Hp} {v : V} {w : W} {k : Key} (h : RepP K Z H0 H v w) (e : w.key = some k) : v = kV k := by
  cases h with
  | fz h => exact rep_key h e
  | _ => simp [W.key] at e
theorem RepP.dK_of {K : PySem.W.Frag} {Z : Zx} {H0 H : Hp} {v : V} {ws} (h : RepP K Z H0 H v (.dK ws)) (e : Ex H0 H) : ∃ p kvs, v = .ref p ∧ Rd H p (.dK kvs) ∧ RepK K Z H0 kvs ws := by
  cases h with
  | fz h => cases h with | dK h r => exact ⟨_, _, rfl, Evl.ex_rd e h, r⟩
  | dK h r => exact ⟨_, _, rfl, .of h, r⟩
/-- a dict that is read -/
def W.dic : W → Option (List (Key × W))
  | .dK kvs => some kvs
  | .dF kvs => some kvs
  | _ => none
theorem RepP.dic_of {K : PySem.W.Frag} {Z : Zx} {H0 H : Hp} {v : V} {w : W} {ws} (h : RepP K Z H0 H v w) (e : Ex H0 H) (hd : w.dic = some ws) : ∃ p kvs, v = .ref p ∧ Rd H p (.dK kvs) ∧ RepK K Z H0 kvs ws := by
  cases w with
  | dK kvs => cases hd; exact h.dK_of e
  | dF kvs =>
    cases hd
    cases h with
    | fz h => cases h with | dF h r => exact ⟨_, _, rfl, .inr ⟨_, e _ _ h⟩, r⟩
  | _ => cases hd
/-- d[k] there; k in d; k not in d -/
def oDGet : O2 := fun a b k => match a.dic, b.key with
  | some kvs, some key => ∃ w, lk kvs key = some w ∧ k w
  | _, _ => False
def rDGet : R2 := fun x y H Q => ∃ a v, x = .ref a ∧ DGet H a y (some v) ∧ Q v H
def rDIn : R2 := fun y x H Q => ∃ a o, x = .ref a ∧ DGet H a y o ∧ Q (.bl o.isSome) H
def rDNotIn : R2 := fun y x H Q => ∃ a o, x = .ref a ∧ DGet H a y o ∧ Q (.bl (!o.isSome)) H
section
variable {K : PySem.W.Frag} {Z : Zx}
theorem opd_dget : OpD K Z rDGet oDGet := by
  intro H0 H v1 w1 v2 w2 k Q e r1 r2 o f
  unfold oDGet at o
  cases hd : w1.dic with
  | none => rw [hd] at o; exact o.elim
  | some kvs =>
    cases hk : w2.key with
    | none => rw [hd, hk] at o; exact o.elim
    | some key =>
      rw [hd, hk] at o
      obtain ⟨w, h, kw⟩ := o
      obtain ⟨p, kv, rfl, rd, rk⟩ := r1.dic_of e hd
      obtain ⟨v, h1, h2⟩ := rk.some h
      exact ⟨p, v, rfl, .inl ⟨kv, key, rd, r2.key_of hk, h1.symm⟩, f.same e h2 kw⟩
theorem isSome_lk {H0 : Hp} {kv : List (Key × V)} {kvs : List (Key × W)} {key : Key} (rk : RepK K Z H0 kv kvs) : (valV kv key).isSome = (lk kvs key).isSome := by
  cases h : lk kvs key with
  | none => rw [rk.none h]; rfl
  | some w => obtain ⟨v, h1, _⟩ := rk.some h; rw [h1]; rfl
end

/-! ### an owned thing in a slot, changed -/
def getT (st : S) (i : Nat) : Option T := match at' st i with
  | .un => none
  | .lo t => some t
  | .mp _ t => some t
  | .fr _ _ _ _ _ _ => none
def setH (s : Sl) (t : T) : Sl := match s with
  | .mp k _ => .mp k t
  | _ => .lo t
def setT : S → Nat → T → S
  | [], _, _ => []
  | s :: st, 0, t => setH s t :: st
  | s :: st, i + 1, t => s :: setT st i t
def setO (st : S) (i : Nat) (t : T) (s : Sl) : S := match s with
  | .mp k _ => put st i (.mp k t)
  | _ => put st i (.lo t)
theorem setT_eq : ∀ (st : S) (i : Nat) (t : T), setT st i t = setO st i t (at' st i)
  | [], i, t => by cases i <;> rfl
  | a :: st, 0, t => by cases a <;> rfl
  | a :: st, i + 1, t => by
    have ih := setT_eq st i t
    show a :: setT st i t = setO (a :: st) (i + 1) t (at' st i)
    rw [ih]
    cases at' st i <;> rfl
theorem set_self {α : Type} : ∀ {l : List α} {i : Nat} {x : α}, l[i]? = some x → l.set i x = l
  | [], i, x, h => by simp at h
  | a :: l, 0, x, h => by simp at h; subst h; rfl
  | a :: l, i + 1, x, h => by
    have := set_self (l := l) (i := i) (x := x) (by simpa using h)
    show a :: l.set i x = a :: l
    rw [this]
theorem Sts.own {K : PySem.W.Frag} {Z : Zx} {H0 : Hp} {pv : List V} {σ : L2.St} {st : S} {G : Fp} {i : Nat} {t : T} {v : V} (ss : Sts K Z H0 pv σ st G) (h : getT st i = some t) (hv : σ[i]? = some (some v)) :
    ∃ G1 Ga Gb, RepT K Z H0 v t G1 ∧ G = Ga ++ G1 ++ Gb ∧ ∀ H0' t' G1', Ex H0 H0' → RepT K Z H0' v t' G1' → Sts K Z H0' pv σ (setT st i t') (Ga ++ G1' ++ Gb) := by
  unfold getT at h
  cases q : at' st i with
  | un => rw [q] at h; cases h
  | lo t0 =>
    rw [q] at h; cases h
    obtain ⟨v', G1, Ga, Gb, h1, h2, h3, h4, _⟩ := ss.lo_at q
    rw [hv] at h1; cases h1
    refine ⟨G1, Ga, Gb, h2, h3, fun H0' t' G1' ex r => ?_⟩
    have := h4 H0' v t' G1' ex r
    rw [set_self hv] at this
    rw [setT_eq, q]
    exact this
  | fr _ _ _ _ _ _ => rw [q] at h; cases h
  | mp k t0 =>
    rw [q] at h; cases h
    obtain ⟨v', G1, Ga, Gb, h1, _, h2, h3, h4⟩ := ss.mp_at q
    rw [hv] at h1; cases h1
    refine ⟨G1, Ga, Gb, h2, h3, fun H0' t' G1' ex r => ?_⟩
    rw [setT_eq, q]
    exact h4 H0' t' G1' ex r
/-! ### stores into owned dicts -/
def dDPut (dd dk dv : DE) : DS := fun D st => dv st (fun rv st1 => dd st1 (fun rd st2 => dk st2 (fun rk st3 => match rd, rv with
  | .pk i, .w v => (match getT st3 i, (rk.val st3).bind W.key with
    | some (.dK kvs), some key => kvs.length < sizeLine ∧ D.nx (setT st3 i (.dK (pt kvs key v)))
    | _, _ => False)
  | _, _ => False) D.ex) D.ex) D.ex
section
variable {X : Cx} {Z : Zx} {E : XS} {e a b o i v : Expr} {es : List Expr} {da db dd dk dv : DE} {ds : DA} {dl : DL} {pos pos' : Pos}
theorem z_dput (hu : X.A.units + 1 < cLine) (ho : PD X Z E o dd) (hi : PD X Z E i dk) (hv : PD X Z E v dv) (hs : swapsWith v (some (.Subscript o i pos')) pos.line X.env = pure false := by rfl) :
    PZ X Z E (.Assign [.Subscript o i pos'] v pos) (dDPut dd dk dv) := by
  refine ps_weak (ps_dput hu ho hi hv hs) fun D σ H q => ?_
  obtain ⟨H0, F, G, pv, st, DD, wd, ss, hd, ha⟩ := q
  refine tE_seq wd ss ha.ex.at hd fun H1 G1 H1' st1 v1 r1 e1 wd1 ss1 rr1 k1 => ?_
  refine tE_seq wd1 ss1 (ha.ex.up e1).at k1 fun H2 G2 H2' st2 v2 r2 e2 wd2 ss2 rr2 k2 => ?_
  refine tE_seq wd2 ss2 (ha.ex.up (e1.trans e2)).at k2 fun H3 G3 H3' st3 v3 r3 e3 wd3 ss3 rr3 k3 => ?_
  cases rr2 with
  | w rv2 => exact k3.elim
  | pk hp =>
    cases rr1 with
    | pk _ => exact k3.elim
    | w rv1 =>
      rename_i i w
      replace k3 : (match getT st3 i, (r3.val st3).bind W.key with
        | some (.dK kvs), some key => kvs.length < sizeLine ∧ DD.nx (setT st3 i (.dK (pt kvs key w)))
        | _, _ => False) := k3
      split at k3
      · rename_i kvs key hg hk
        obtain ⟨kw, hk1, hk2⟩ := Option.bind_eq_some_iff.mp hk
        have rk := (rr3.peek ss3 wd3 hk1).key_of hk2
        obtain ⟨Gx, Ga, Gb, h1, h2, h3⟩ := ss3.own hg hp
        cases h1 with
        | dK rkv =>
          rename_i p kv
          subst h2
          have hpH : H3' p = some (.dK kv) := wd3.ow (p, _) (by simp)
          have rput := rkv.put (k := key) (rv1.mono (e2.trans e3))
          refine ⟨p, _, rfl, .inl ⟨kv, key, hpH, rk, by rw [rkv.length]; exact k3.1, rfl⟩, ?_⟩
          exact ha.nx _ _ _ _ _ (e1.trans (e2.trans e3)) wd3.write (h3 H3 _ _ (Ex.refl _) (.dK rput)) k3.2
      · exact k3.elim
end

/-! ### {k: v, ..} -/
abbrev DDc := S → (List (Key × W) → S → Prop) → KX → Prop
def dPairs : List (DE × DE) → S → (List (Key × W) → S → Prop) → KX → Prop
  | [], st, k, _ => k [] st
  | (a, b) :: r, st, k, x => a st (fun rk st1 => b st1 (fun rv st2 => dPairs r st2 (fun kws st3 => match rk, rv with
    | .w kw, .w v => (match kw.key with
      | some key => k ((key, v) :: kws) st3
      | none => False)
    | _, _ => False) x) x) x
def mergeW (kvs more : List (Key × W)) : List (Key × W) := more.foldl (fun acc kv => pt acc kv.1 kv.2) kvs
def dDisp (ds : List (DE × DE)) : DDc := fun st k x => dPairs ds st (fun kws st1 => kws.length ≤ 15 ∧ k (mergeW [] kws) st1) x
section
variable (K : PySem.W.Frag) (Z : Zx) (E : XS)
def AccDc (F : Hp) (pv : List V) (σ : L2.St) (H0 : Hp) (k : List (Key × W) → S → Prop) (Q : VK) : Prop :=
  ∀ H0' G' H' st' p xs ws, Ex H0 H0' → Wd H0' (upd F p (.dK xs)) G' H' → F p = none → Sts K Z H0' pv σ st' G' → RepK K Z H0' xs ws → k ws st' → Q (.ref p) H'
def tDc (d : DDc) : TE := fun σ H Q => ∃ H0 F G pv st k kx, Wd H0 F G H ∧ Sts K Z H0 pv σ st G ∧ d st k kx ∧ AccDc K Z F pv σ H0 k Q ∧ AccXe K Z E F pv σ H0 kx
def trsOf (ds : List (DE × DE)) : List (TE × TE) := ds.map fun p => (tE K Z E p.1, tE K Z E p.2)
end
def PDDc (X : Cx) (Z : Zx) (E : XS) (e : Expr) (d : DDc) : Prop := PE X e (tDc X.K Z E d)
def dRetD (d : DDc) : DS := fun D st => d st (fun ws st1 => D.rt (.dK ws) st1) D.ex
section
variable {X : Cx} {Z : Zx} {E : XS} {e a b o i v : Expr} {es : List Expr} {da db dd dk dv : DE} {ds : List (DE × DE)} {dl : DDc} {pos pos' : Pos}
theorem pairs_ok {K : PySem.W.Frag} {σ : L2.St} {F : Hp} {pv : List V} {kx : KX} : ∀ (ds : List (DE × DE)) {H0 H : Hp} {G : Fp} {st : S} {Q : List (V × V) → Hp → Prop} {k : List (Key × W) → S → Prop}, Wd H0 F G H → Sts K Z H0 pv σ st G → AccXe K Z E F pv σ H0 kx → dPairs ds st k kx →
    (∀ H0' G' H' st' (kvs : List (Key × V)) ws, Ex H0 H0' → Wd H0' F G' H' → Sts K Z H0' pv σ st' G' → RepK K Z H0' kvs ws → k ws st' → Q (kvs.map fun kv => (kV kv.1, kv.2)) H') → tPairs (trsOf K Z E ds) σ H Q
  | [], H0, H, G, st, Q, k, wd, ss, hx, hd, hk => hk _ _ _ _ [] [] (Ex.refl _) wd ss .nil hd
  | (a, b) :: r, H0, H, G, st, Q, k, wd, ss, hx, hd, hk => by
    refine tE_seq wd ss hx hd fun H1 G1 H1' st1 v1 r1 e1 wd1 ss1 rr1 k1 => ?_
    refine tE_seq wd1 ss1 (hx.up e1) k1 fun H2 G2 H2' st2 v2 r2 e2 wd2 ss2 rr2 k2 => ?_
    refine pairs_ok r wd2 ss2 (hx.up (e1.trans e2)) k2 fun H3 G3 H3' st3 kvs ws e3 wd3 ss3 rk k3 => ?_
    cases rr1 with
    | pk _ => exact k3.elim
    | w rv1 =>
      cases rr2 with
      | pk _ => exact k3.elim
      | w rv2 =>
        rename_i w1 w2
        replace k3 : (match w1.key with | some key => k ((key, w2) :: ws) st3 | none => False) := k3
        cases hk1 : w1.key with
        | none => rw [hk1] at k3; exact k3.elim
        | some key =>
          rw [hk1] at k3
          have := rep_key rv1 hk1
          subst this
          exact hk _ _ _ _ ((key, v2) :: kvs) _ (e1.trans (e2.trans e3)) wd3 ss3 (.cons (rv2.mono e3) rk) k3
theorem RepK.merge {K : PySem.W.Frag} {H : Hp} : ∀ {more ws kvs us}, RepK K Z H more ws → RepK K Z H kvs us → RepK K Z H (mergeK kvs more) (mergeW us ws)
  | _, _, _, _, .nil, h => h
  | _, _, _, _, .cons (k := k) r t, h => by
    have := RepK.merge t (RepK.put (k := k) h r)
    exact this
theorem pdc_disp {keys : List (Option Expr)} {values : List Expr} (h : PPs X pos keys values (trsOf X.K Z E ds)) (hall : keys.all (·.isSome) = true := by rfl) (hl : keys.length = values.length := by rfl) (h0 : keys ≠ [] := by exact List.cons_ne_nil _ _)
    (h15 : keys.length ≤ 15 := by decide) : PDDc X Z E (.Dict keys values pos) (dDisp ds) := by
  refine pe_weak (pe_disp h hall hl h0 h15) fun σ H Q q => ?_
  obtain ⟨H0, F, G, pv, st, k, kx, wd, ss, hd, hk, hx⟩ := q
  intro p hp
  have hF := (wd.free hp).2.1
  refine pairs_ok (F := upd F p (.dK [])) ds (wd.hand hp) ss ⟨hx.tabs.upd hF, fun H0' G' H' st' cls dx x e' wd' ss' rx kx' => ?_⟩ hd fun H1 G1 H1' st1 kvs ws e1 wd1 ss1 rk k1 => ?_
  · refine hx H0' G' H' st' cls dx x e' ?_ ss' rx kx'
    have := wd'.hand_own hF
    have w2 : Wd H0' F ([] ++ [(p, .dK [])] ++ G') H' := this
    exact w2.less
  · refine ⟨wd1.hand_at, kvs, rfl, by rw [rk.length]; exact k1.1, ?_⟩
    exact hk _ _ _ _ _ _ _ e1 (wd1.hand_write hF) hF ss1 (RepK.merge rk .nil) k1.2
theorem tDc_seq {K : PySem.W.Frag} {σ : L2.St} {H H0 F : Hp} {G : Fp} {pv : List V} {st : S} {kx : KX} {Q : VK} {k : List (Key × W) → S → Prop} (wd : Wd H0 F G H) (ss : Sts K Z H0 pv σ st G) (hx : AccXe K Z E F pv σ H0 kx) (hd : dl st k kx)
    (h : ∀ H0' G' H' st' p xs ws, Ex H0 H0' → Wd H0' (upd F p (.dK xs)) G' H' → F p = none → Sts K Z H0' pv σ st' G' → RepK K Z H0' xs ws → k ws st' → Q (.ref p) H') : tDc K Z E dl σ H Q := ⟨H0, F, G, pv, st, k, kx, wd, ss, hd, h, hx⟩
theorem z_retD (he : PDDc X Z E e dl) : PZ X Z E (.Return (some e) pos) (dRetD dl) := by
  refine ps_weak (ps_ret he) fun D σ H q => ?_
  obtain ⟨H0, F, G, pv, st, DD, wd, ss, hd, ha⟩ := q
  refine tDc_seq wd ss ha.ex.at hd fun H1 G1 H1' st1 p xs ws e1 wd1 hF ss1 rs k1 => ?_
  exact ha.rt _ [(p, .dK xs)] _ _ _ _ _ _ e1 (wd1.hand_own hF) (.dK rs) ss1 k1
end
end Y
namespace Y
open PySem L2
open Evl (Ex)

/-! ### evaluators that may hand on an owned thing -/
abbrev DW := S → (T → S → Prop) → KX → Prop
section
variable (K : PySem.W.Frag) (Z : Zx) (E : XS)
def AccW (F : Hp) (pv : List V) (σ : L2.St) (H0 : Hp) (k : T → S → Prop) (Q : VK) : Prop :=
  ∀ H0' Gv G' H' st' v t, Ex H0 H0' → Wd H0' F (Gv ++ G') H' → RepT K Z H0' v t Gv → Sts K Z H0' pv σ st' G' → k t st' → Q v H'
def tW (d : DW) : TE := fun σ H Q => ∃ H0 F G pv st k kx, Wd H0 F G H ∧ Sts K Z H0 pv σ st G ∧ d st k kx ∧ AccW K Z F pv σ H0 k Q ∧ AccXe K Z E F pv σ H0 kx
end
def PVD (X : Cx) (Z : Zx) (E : XS) (e : Expr) (d : DW) : Prop := PE X e (tW X.K Z E d)
/-- it is frozen already -/
def dOf (d : DW) : DE := fun st k x => d st (fun t st1 => match t with
  | .fz w => k (.w w) st1
  | _ => False) x
def dAsgW (i : Nat) (d : DW) : DS := fun D st => d st (fun t st1 => stoT st1 i t D.nx) D.ex
def dDropW (d : DW) : DS := fun D st => d st (fun _ st1 => D.nx st1) D.ex
def wD (d : DDc) : DW := fun st k x => d st (fun ws st1 => k (.dK ws) st1) x
def wE (d : DE) : DW := fun st k x => d st (fun r st1 => match r with
  | .w w => k (.fz w) st1
  | .pk _ => False) x
/-- it is frozen now -/
def T.frz : T → Option W
  | .fz w => some w
  | .lst ws => some (.lst ws)
  | .dK ws => some (.dK ws)
  | .dT ws => some (.dT ws)
  | .ins c ts => if ts.length = (fldN c).length then (T.fzs ts).map (.ins c) else none
  | .wo _ _ => none
  | .dR _ => none
  | .dd _ _ => none
section
variable {K : PySem.W.Frag} {Z : Zx} {H0 H F : Hp}
theorem RepTs.fz_of : ∀ {vs ts G ws}, RepTs K Z H0 vs ts G → T.fzs ts = some ws → G = [] ∧ Reps K Z H0 vs ws
  | _, _, _, _, .nil, e => by cases e; exact ⟨rfl, .nil⟩
  | _, .fz w :: ts, _, ws, .cons (.fz h) r, e => by
    unfold T.fzs at e
    obtain ⟨us, h1, rfl⟩ := Option.map_eq_some_iff.mp e
    obtain ⟨h2, h3⟩ := RepTs.fz_of r h1
    exact ⟨by rw [h2]; rfl, .cons h h3⟩
  | _, .lst _ :: _, _, _, .cons _ r, e => by cases e
  | _, .dK _ :: _, _, _, .cons _ r, e => by cases e
  | _, .dT _ :: _, _, _, .cons _ r, e => by cases e
  | _, .ins _ _ :: _, _, _, .cons _ r, e => by cases e
  | _, .wo _ _ :: _, _, _, .cons _ r, e => by cases e
  | _, .dR _ :: _, _, _, .cons _ r, e => by cases e
  | _, .dd _ _ :: _, _, _, .cons _ r, e => by cases e
theorem freeze {Gv G : Fp} {v : V} {t : T} {w : W} (wd : Wd H0 F (Gv ++ G) H) (r : RepT K Z H0 v t Gv) (e : t.frz = some w) : ∃ H0', Ex H0 H0' ∧ Wd H0' F G H ∧ Rep K Z H0' v w := by
  cases r with
  | fz r => cases e; exact ⟨H0, Ex.refl _, wd, r⟩
  | lst r =>
    cases e
    obtain ⟨w2, e2⟩ := Wd.own_fz (Ga := []) (Gb := G) wd
    exact ⟨_, e2, w2, .lst upd_same (r.mono e2)⟩
  | dK r =>
    cases e
    obtain ⟨w2, e2⟩ := Wd.own_fz (Ga := []) (Gb := G) wd
    exact ⟨_, e2, w2, .dK (.of upd_same) (r.mono e2)⟩
  | dT r =>
    cases e
    obtain ⟨w2, e2⟩ := Wd.own_fz (Ga := []) (Gb := G) wd
    exact ⟨_, e2, w2, .dT (.of upd_same) (r.mono e2)⟩
  | @ins p c dx fs ts G1 z n r =>
    replace e : (if ts.length = (fldN c).length then (T.fzs ts).map (W.ins c) else none) = some w := e
    by_cases hl : ts.length = (fldN c).length
    · rw [if_pos hl] at e
      obtain ⟨ws, h1, rfl⟩ := Option.map_eq_some_iff.mp e
      obtain ⟨h2, h3⟩ := r.fz_of h1
      subst h2
      obtain ⟨w2, e2⟩ := Wd.own_fz (Ga := []) (Gb := G) wd
      refine ⟨_, e2, w2, .ins z upd_same ?_ (h3.mono e2)⟩
      rw [n, hl, List.take_length]
    · rw [if_neg hl] at e; cases e
  | wo _ _ => cases e
  | dR _ => cases e
  | dd _ => cases e
end
section
variable {X : Cx} {Z : Zx} {E : XS} {e a b o i v : Expr} {es : List Expr} {da db dd dk dv : DE} {dl : DL} {dc : DDc} {dw : DW} {pos pos' : Pos}
theorem tW_seq {K : PySem.W.Frag} {σ : L2.St} {H H0 F : Hp} {G : Fp} {pv : List V} {st : S} {kx : KX} {Q : VK} {k : T → S → Prop} (wd : Wd H0 F G H) (ss : Sts K Z H0 pv σ st G) (hx : AccXe K Z E F pv σ H0 kx) (hd : dw st k kx)
    (h : ∀ H0' Gv G' H' st' v t, Ex H0 H0' → Wd H0' F (Gv ++ G') H' → RepT K Z H0' v t Gv → Sts K Z H0' pv σ st' G' → k t st' → Q v H') : tW K Z E dw σ H Q := ⟨H0, F, G, pv, st, k, kx, wd, ss, hd, h, hx⟩
theorem pv_D (h : PDDc X Z E e dc) : PVD X Z E e (wD dc) := by
  refine pe_weak h fun σ H Q q => ?_
  obtain ⟨H0, F, G, pv, st, k, kx, wd, ss, hd, hk, hx⟩ := q
  exact tDc_seq wd ss hx hd fun H1 G1 H1' st1 p xs ws e1 wd1 hF ss1 rs k1 => hk _ [(p, .dK xs)] _ _ _ _ _ e1 (wd1.hand_own hF) (.dK rs) ss1 k1
theorem pv_E (h : PD X Z E e da) : PVD X Z E e (wE da) := by
  refine pe_weak h fun σ H Q q => ?_
  obtain ⟨H0, F, G, pv, st, k, kx, wd, ss, hd, hk, hx⟩ := q
  refine tE_seq wd ss hx hd fun H1 G1 H1' st1 v r e1 wd1 ss1 rr k1 => ?_
  cases rr with
  | pk _ => exact k1.elim
  | w rv => exact hk _ [] _ _ _ _ _ e1 wd1 (.fz rv) ss1 k1
theorem pd_of (h : PVD X Z E e dw) : PD X Z E e (dOf dw) := by
  refine pe_weak h fun σ H Q q => ?_
  obtain ⟨H0, F, G, pv, st, k, kx, wd, ss, hd, hk, hx⟩ := q
  refine tW_seq wd ss hx hd fun H1 Gv G1 H1' st1 v t e1 wd1 rt ss1 k1 => ?_
  cases rt with
  | fz r => exact hk _ _ _ _ _ _ e1 wd1 ss1 (.w r) k1
  | _ => exact k1.elim
theorem z_setW {i : Nat} {x : Str} (hN : X.N.Nodup) (hi : X.N[i]? = some x) (hx : Loc X.env.scope x) (he : PVD X Z E e dw) (hs : swapsWith e (some (.Name x pos')) pos.line X.env = pure false := by rfl) (hf : X.fn x = true ∨ X.env.scope.names.lookup x = some .local := by first | exact .inl rfl | exact .inr rfl | assumption) :
    PZ X Z E (.Assign [.Name x pos'] e pos) (dAsgW i dw) := by
  refine ps_weak (ps_set hN hi hx he hs hf) fun D σ H q => ?_
  obtain ⟨H0, F, G, pv, st, DD, wd, ss, hd, ha⟩ := q
  refine tW_seq wd ss ha.ex.at hd fun H1 Gv G1 H1' st1 v t e1 wd1 rt ss1 k1 => ?_
  obtain ⟨G', wd2, ss2, k2⟩ := stoT_ok wd1 ss1 rt k1
  exact ha.nx _ _ _ _ _ e1 wd2 ss2 k2
theorem z_exprW (he : PVD X Z E e dw) (hs : swapsWith e none pos.line X.env = pure false := by rfl) : PZ X Z E (.Expr e pos) (dDropW dw) := by
  refine ps_weak (ps_expr he hs) fun D σ H q => ?_
  obtain ⟨H0, F, G, pv, st, DD, wd, ss, hd, ha⟩ := q
  refine tW_seq wd ss ha.ex.at hd fun H1 Gv G1 H1' st1 v t e1 wd1 rt ss1 k1 => ha.nx _ _ _ _ _ e1 ?_ ss1 k1
  have w2 : Wd H1 F ([] ++ Gv ++ G1) H1' := wd1
  exact w2.less
/-- return of a name's own thing, frozen -/
def dRetF (d : DE) : DS := fun D st => d st (fun r st1 => match r with
  | .w w => D.rt (.fz w) st1
  | .pk i => match at' st1 i with
    | .lo t => (match t.frz with
      | some w => D.rt (.fz w) (put st1 i .un)
      | none => False)
    | _ => False) D.ex
theorem z_retF (he : PD X Z E e da) : PZ X Z E (.Return (some e) pos) (dRetF da) := by
  refine ps_weak (ps_ret he) fun D σ H q => ?_
  obtain ⟨H0, F, G, pv, st, DD, wd, ss, hd, ha⟩ := q
  refine tE_seq wd ss ha.ex.at hd fun H1 G1 H1' st1 v r e1 wd1 ss1 rr k1 => ?_
  cases rr with
  | w rv => exact ha.rt _ [] _ _ _ _ _ _ e1 wd1 (.fz rv) ss1 k1
  | pk h =>
    rename_i i
    replace k1 : (match at' st1 i with | .lo t => (match t.frz with | some w => DD.rt (.fz w) (put st1 i .un) | none => False) | _ => False) := k1
    cases q : at' st1 i with
    | un => rw [q] at k1; exact k1.elim
    | mp k t => rw [q] at k1; exact k1.elim
    | fr _ _ _ _ _ _ => rw [q] at k1; exact k1.elim
    | lo t =>
      rw [q] at k1
      cases q1 : t.frz with
      | none => simp only [q1] at k1
      | some w =>
        simp only [q1] at k1
        obtain ⟨v', Gx, Ga, Gb, h1, h2, h3, _, h5⟩ := ss1.lo_at q
        rw [h] at h1; cases h1
        subst h3
        have wd2 : Wd H1 F (Gx ++ (Ga ++ Gb)) H1' := wd1.perm (by rw [← List.append_assoc]; exact List.Perm.append_right _ List.perm_append_comm)
        obtain ⟨H2, e2, wd3, r3⟩ := freeze wd2 h2 q1
        exact ha.rt _ [] _ _ _ _ _ _ (e1.trans e2) wd3 (.fz r3) (h5.mono e2) k1
end

/-! ### contracts -/
abbrev Ct := List T → (T → List T → Prop) → (XW → List T → Prop) → Prop
/-- the callers' own things stand in the frame -/
def lkF : Fp → Addr → Option HO
  | [], _ => none
  | q :: G, a => if q.1 = a then some q.2 else lkF G a
def addF (F : Hp) (G : Fp) : Hp := fun a => match lkF G a with
  | some o => some o
  | none => F a
theorem lkF_mem : ∀ {G : Fp} {a : Addr} {o : HO}, lkF G a = some o → (a, o) ∈ G
  | q :: G, a, o, h => by
    unfold lkF at h
    by_cases e : q.1 = a
    · rw [if_pos e] at h; cases h; subst e; exact List.mem_cons_self
    · rw [if_neg e] at h; exact List.mem_cons_of_mem _ (lkF_mem h)
theorem lkF_none : ∀ {G : Fp} {a : Addr}, (∀ q ∈ G, q.1 ≠ a) → lkF G a = none
  | [], _, _ => rfl
  | q :: G, a, h => by
    unfold lkF
    rw [if_neg (h q List.mem_cons_self)]
    exact lkF_none fun p hp => h p (List.mem_cons_of_mem _ hp)
theorem lkF_at : ∀ {G : Fp} {q : Addr × HO}, (G.map (·.1)).Nodup → q ∈ G → lkF G q.1 = some q.2
  | p :: G, q, nd, h => by
    rw [List.map_cons] at nd
    obtain ⟨n1, n2⟩ := List.nodup_cons.mp nd
    unfold lkF
    rcases List.mem_cons.mp h with e | h
    · subst e; rw [if_pos rfl]
    · rw [if_neg (fun e => n1 (List.mem_map.mpr ⟨q, h, e.symm⟩))]
      exact lkF_at n2 h
section
variable {H0 F H : Hp} {Ga Gr : Fp}
theorem nodup_split (nd : ((Ga ++ Gr).map (·.1)).Nodup) : (Ga.map (·.1)).Nodup ∧ (Gr.map (·.1)).Nodup ∧ ∀ p ∈ Ga, ∀ q ∈ Gr, p.1 ≠ q.1 := by
  rw [List.map_append] at nd
  obtain ⟨h1, h2, h3⟩ := List.nodup_append.mp nd
  exact ⟨h1, h2, fun p hp q hq => h3 p.1 (List.mem_map.mpr ⟨p, hp, rfl⟩) q.1 (List.mem_map.mpr ⟨q, hq, rfl⟩)⟩
theorem Wd.toCall (wd : Wd H0 F (Ga ++ Gr) H) : Wd H0 (addF F Gr) Ga H := by
  obtain ⟨n1, n2, n3⟩ := nodup_split wd.nd
  refine ⟨wd.ex, fun a o h n => ?_, fun q hq => wd.ow q (List.mem_append_left _ hq), n1, fun q hq => wd.d0 q (List.mem_append_left _ hq), fun q hq => ?_, fun a o h => ?_, fun a o t h n => ?_, fun q hq => wd.tn q (List.mem_append_left _ hq)⟩
  · unfold addF at h
    cases q : lkF Gr a with
    | some u => rw [q] at h; cases h; exact wd.ow _ (List.mem_append_right _ (lkF_mem q))
    | none => rw [q] at h; exact wd.fr a o h n
  · unfold addF
    rw [lkF_none fun p hp e => n3 q hq p hp e.symm]
    exact wd.dF q (List.mem_append_left _ hq)
  · unfold addF
    rw [lkF_none fun p hp e => by have := wd.d0 p (List.mem_append_right _ hp); rw [e, h] at this; cases this]
    exact wd.d0F a o h
  · unfold addF at h
    cases q : lkF Gr a with
    | some u =>
      rw [q] at h; cases h
      have := wd.tn _ (List.mem_append_right _ (lkF_mem q))
      rw [n] at this; cases this
    | none => rw [q] at h; exact wd.tb a o t h n
theorem Wd.ofCall {H0' H' : Hp} {Ga' : Fp} (wd : Wd H0 F (Ga ++ Gr) H) (wd' : Wd H0' (addF F Gr) Ga' H') : Wd H0' F (Ga' ++ Gr) H' := by
  obtain ⟨n1, n2, n3⟩ := nodup_split wd.nd
  have at_ : ∀ q ∈ Gr, addF F Gr q.1 = some q.2 := fun q hq => by unfold addF; rw [lkF_at n2 hq]
  have ofF : ∀ a o, F a = some o → addF F Gr a = some o := fun a o h => by
    unfold addF
    rw [lkF_none fun p hp e => by have := wd.dF p (List.mem_append_right _ hp); rw [e, h] at this; cases this]
    exact h
  have ofN : ∀ a, addF F Gr a = none → F a = none := fun a h => by
    cases q : F a with
    | none => rfl
    | some o => rw [ofF a o q] at h; cases h
  have tnr : ∀ q ∈ Gr, tabQ q.2 = none := fun q hq => wd.tn q (List.mem_append_right _ hq)
  refine ⟨wd'.ex, fun a o h n => wd'.fr a o (ofF a o h) n, fun q hq => ?_, ?_, fun q hq => ?_, fun q hq => ?_, fun a o h => ofN a (wd'.d0F a o h), fun a o t h n => wd'.tb a o t (ofF a o h) n, fun q hq => (List.mem_append.mp hq).elim (wd'.tn q) (tnr q)⟩
  · rcases List.mem_append.mp hq with h | h
    · exact wd'.ow q h
    · exact wd'.fr _ _ (at_ q h) (tnr q h)
  · rw [List.map_append]
    refine List.nodup_append.mpr ⟨wd'.nd, n2, fun a ha b hb e => ?_⟩
    obtain ⟨p, hp, rfl⟩ := List.mem_map.mp ha
    obtain ⟨q, hq, rfl⟩ := List.mem_map.mp hb
    have := wd'.dF p hp
    rw [e, at_ q hq] at this; cases this
  · rcases List.mem_append.mp hq with h | h
    · exact wd'.d0 q h
    · cases z : H0' q.1 with
      | none => rfl
      | some u => have := wd'.d0F _ _ z; rw [at_ q h] at this; cases this
  · rcases List.mem_append.mp hq with h | h
    · exact ofN _ (wd'.dF q h)
    · exact wd.dF q (List.mem_append_right _ h)
theorem Wd.sub {G Gd G' : Fp} (wd : Wd H0 F G H) (p : G.Perm (G' ++ Gd)) : Wd H0 F G' H := by
  have w2 : Wd H0 F (G' ++ Gd ++ []) H := by rw [List.append_nil]; exact wd.perm p.symm
  have := w2.less
  rwa [List.append_nil] at this
theorem Wd.junk {p : Addr} {o : HO} {G : Fp} (wd : Wd H0 F G H) (hp : H p = none) : Wd H0 F G (upd H p o) := by
  obtain ⟨_, _, hG⟩ := wd.free hp
  have nw : Ex H (upd H p o) := .new hp
  exact ⟨wd.ex.trans nw, fun a u h n => nw a u (wd.fr a u h n), fun q hq => by rw [upd_ne (hG q hq)]; exact wd.ow q hq, wd.nd, wd.d0, wd.dF, wd.d0F, fun a u t h n => (wd.tb a u t h n).up (Ex.refl _) (nw a), wd.tn⟩
end
theorem TabF.add {Z : Zx} {F H0 H : Hp} {Ga Gr : Fp} (t : TabF Z F) (wd : Wd H0 F (Ga ++ Gr) H) : TabF Z (addF F Gr) := fun p hp => by
  unfold addF
  rw [lkF_none fun q hq e => by have := wd.dF q (List.mem_append_right _ hq); rw [e, t p hp] at this; cases this]
  exact t p hp
def spOf (K : PySem.W.Frag) (Z : Zx) (c : Ct) : Sp := fun vs H Q E => ∃ H0 F Ga ts k kx, Wd H0 F Ga H ∧ RepTs K Z H0 vs ts Ga ∧ c ts k kx ∧
  (∀ H0' Gv Ga' H' v t ts', Ex H0 H0' → Wd H0' F (Gv ++ Ga') H' → RepT K Z H0' v t Gv → RepTs K Z H0' vs ts' Ga' → k t ts' → Q v H') ∧
  (∀ H0' Ga' H' ts' cls dx x, Ex H0 H0' → Wd H0' F Ga' H' → RepTs K Z H0' vs ts' Ga' → RepX K Z H0' H' cls dx x → kx x ts' → E cls dx H') ∧ TabF Z F

/-! ### a call's arguments -/
def argT (st : S) : List R → Option (List T)
  | [] => some []
  | .w w :: rs => (argT st rs).map (.fz w :: ·)
  | .pk i :: rs => match getT st i, argT st rs with
    | some t, some ts => some (t :: ts)
    | _, _ => none
def setA (st : S) : List R → List T → S
  | .pk i :: rs, t :: ts => setA (setT st i t) rs ts
  | .w _ :: rs, _ :: ts => setA st rs ts
  | _, _ => st
def noPk : List R → Bool
  | [] => true
  | .w _ :: rs => noPk rs
  | .pk _ :: _ => false
def onePk : List R → Bool
  | [] => true
  | .w _ :: rs => onePk rs
  | .pk _ :: rs => noPk rs
section
variable {K : PySem.W.Frag} {Z : Zx} {H0 H F : Hp} {pv : List V} {σ : L2.St}
theorem setA_no {st : S} : ∀ {rs ts}, noPk rs = true → setA st rs ts = st
  | [], [], _ => rfl
  | [], _ :: _, _ => rfl
  | .w _ :: rs, [], _ => rfl
  | .w _ :: rs, _ :: ts, h => setA_no (rs := rs) (ts := ts) h
  | .pk _ :: rs, _, h => by cases h
theorem args_no {st : S} : ∀ {vs rs ts}, RepRs K Z H0 σ vs rs → noPk rs = true → argT st rs = some ts → RepTs K Z H0 vs ts []
  | _, _, _, .nil, _, e => by cases e; exact .nil
  | _, _, _, .cons (r := .pk _) _ _, h, _ => by cases h
  | _, _, ts, .cons (r := .w w) h t, hn, e => by
    unfold argT at e
    obtain ⟨us, h1, rfl⟩ := Option.map_eq_some_iff.mp e
    cases h with | w h => exact .cons (G1 := []) (.fz h) (args_no t hn h1)
theorem args_split {st : S} {G : Fp} (ss : Sts K Z H0 pv σ st G) : ∀ {vs rs ts}, RepRs K Z H0 σ vs rs → onePk rs = true → argT st rs = some ts →
    ∃ Ga Gr, G.Perm (Ga ++ Gr) ∧ RepTs K Z H0 vs ts Ga ∧ ∀ H0' us ts' Ga', Ex H0 H0' → RepTs K Z H0' (vs ++ us) ts' Ga' → ∃ G' Gd, (Ga' ++ Gr).Perm (G' ++ Gd) ∧ Sts K Z H0' pv σ (setA st rs ts') G'
  | _, _, _, .nil, _, e => by
    cases e
    refine ⟨[], G, .refl _, .nil, fun H0' us ts' Ga' ex r => ⟨G, Ga', List.perm_append_comm, ?_⟩⟩
    cases ts' <;> exact ss.mono ex
  | _, _, ts, .cons (r := .w w) h t, hn, e => by
    unfold argT at e
    obtain ⟨us, h1, rfl⟩ := Option.map_eq_some_iff.mp e
    obtain ⟨Ga, Gr, h2, h3, h4⟩ := args_split ss t hn h1
    cases h with
    | w h =>
      refine ⟨Ga, Gr, h2, .cons (G1 := []) (.fz h) h3, fun H0' us' ts' Ga' ex r => ?_⟩
      cases r with
      | cons r1 r2 =>
        rename_i t' ts' G1 G2
        obtain ⟨G', Gd, h5, h6⟩ := h4 H0' us' _ _ ex r2
        refine ⟨G', Gd ++ G1, ?_, h6⟩
        rw [← List.append_assoc]
        refine List.Perm.trans ?_ (List.Perm.append_right G1 h5)
        rw [List.append_assoc]
        exact List.perm_append_comm
  | _, _, ts, .cons (r := .pk i) (rs := rs) h t, hn, e => by
    unfold argT at e
    cases q1 : getT st i with
    | none => rw [q1] at e; cases e
    | some t1 =>
      cases q2 : argT st rs with
      | none => rw [q1, q2] at e; cases e
      | some us =>
        rw [q1, q2] at e; cases e
        cases h with
        | pk hv =>
          obtain ⟨G1, A, B, h1, h2, h3⟩ := ss.own q1 hv
          subst h2
          refine ⟨G1 ++ [], A ++ B, ?_, .cons h1 (args_no t hn q2), fun H0' us' ts' Ga' ex r => ?_⟩
          · rw [List.append_nil, ← List.append_assoc]
            exact List.Perm.append_right _ List.perm_append_comm
          · cases r with
            | cons r1 r2 =>
              rename_i t' ts' G1' G2'
              refine ⟨A ++ G1' ++ B, G2', ?_, ?_⟩
              · have p1 : (G1' ++ G2' ++ (A ++ B)).Perm (A ++ B ++ (G1' ++ G2')) := List.perm_append_comm
                refine p1.trans ?_
                have p2 : (A ++ B ++ (G1' ++ G2')).Perm (A ++ (G1' ++ B) ++ G2') := by
                  rw [List.append_assoc, List.append_assoc, List.append_assoc]
                  refine List.Perm.append_left A ?_
                  rw [← List.append_assoc, ← List.append_assoc]
                  exact List.Perm.append_right G2' List.perm_append_comm
                rw [List.append_assoc A G1' B]
                exact p2
              · show Sts K Z H0' pv σ (setA (setT st i t') rs ts') _
                rw [setA_no hn]
                exact h3 H0' t' G1' ex r1
theorem RepTs.app : ∀ {vs ts G us ts2}, RepTs K Z H0 vs ts G → RepTs K Z H0 us ts2 [] → RepTs K Z H0 (vs ++ us) (ts ++ ts2) G
  | _, _, _, _, _, .nil, h => h
  | _, _, _, _, _, .cons r t, h => .cons r (RepTs.app t h)
theorem RepTs.ofFz : ∀ {vs ws}, Reps K Z H0 vs ws → RepTs K Z H0 vs (ws.map .fz) []
  | _, _, .nil => .nil
  | _, _, .cons r t => .cons (G1 := []) (.fz r) (RepTs.ofFz t)
/-- what a call comes to: from the contract at the evaluated arguments to the promise -/
theorem call_ok {E : XS} {st : S} {G : Fp} {kx : KX} {Q : VK} {c : Ct} {vs : List V} {rs : List R} {ts : List T} {dvs : List V} {dws : List W} {k : T → S → Prop} (wd : Wd H0 F G H) (ss : Sts K Z H0 pv σ st G) (rr : RepRs K Z H0 σ vs rs) (hdv : ∀ H0, Reps K Z H0 dvs dws)
    (h1 : onePk rs = true) (h2 : argT st rs = some ts) (h3 : c (ts ++ dws.map .fz) (fun t ts' => k t (setA st rs ts')) (fun x ts' => kx x (setA st rs ts')))
    (hk : AccW K Z F pv σ H0 k Q) (hx : AccXe K Z E F pv σ H0 kx) : spOf K Z c (vs ++ dvs) H Q (fun cls dx H => E cls dx σ H) := by
  obtain ⟨Ga, Gr, p, ra, back⟩ := args_split ss rr h1 h2
  have wd' : Wd H0 F (Ga ++ Gr) H := wd.perm p.symm
  refine ⟨H0, addF F Gr, Ga, _, _, _, wd'.toCall, ra.app (.ofFz (hdv H0)), h3, fun H0' Gv Ga' H' v t ts' ex wd1 rt rts kt => ?_, fun H0' Ga' H' ts' cls dx x ex wd1 rts rx kt => ?_, hx.tabs.add wd'⟩
  · have w2 := wd'.ofCall wd1
    obtain ⟨G', Gd, p2, s2⟩ := back H0' dvs ts' Ga' ex rts
    refine hk H0' Gv G' H' _ v t ex (w2.sub (Gd := Gd) ?_) rt s2 kt
    rw [List.append_assoc, List.append_assoc]
    exact List.Perm.append_left Gv p2
  · have w2 := wd'.ofCall wd1
    obtain ⟨G', Gd, p2, s2⟩ := back H0' dvs ts' Ga' ex rts
    exact hx H0' G' H' _ cls dx x ex (w2.sub p2) s2 rx kt
end
end Y
namespace Y
open PySem L2
open PySem.Spec PyProof.Rows
open Evl (Ex)

/-! ### a def keeps its contract -/
def entryS : List T → Nat → S
  | [], _ => []
  | .fz w :: ts, k => .lo (.fz w) :: entryS ts (k + 1)
  | t :: ts, k => .mp k t :: entryS ts (k + 1)
def uns : Nat → S
  | 0 => []
  | n + 1 => .un :: uns n
def outT : List T → S → Nat → Option (List T)
  | [], _, _ => some []
  | .fz w :: ts, _ :: st, j => (outT ts st (j + 1)).map (.fz w :: ·)
  | _ :: ts, .mp k t :: st, j => if k = j then (outT ts st (j + 1)).map (t :: ·) else none
  | _, _, _ => none
def endsOf (ts : List T) (k : T → List T → Prop) (kx : XW → List T → Prop) : DEnds where
  nx := fun st => match outT ts st 0 with
    | some ts' => k (.fz .non) ts'
    | none => False
  rt := fun t st => match outT ts st 0 with
    | some ts' => k t ts'
    | none => False
  ex := fun x st => match outT ts st 0 with
    | some ts' => kx x ts'
    | none => False
/-- the body d keeps the contract c: np parameters, m other names -/
def Meets (c : Ct) (np m : Nat) (d : DS) : Prop := ∀ ts k kx, c ts k kx → ts.length = np ∧ d (endsOf ts k kx) (entryS ts 0 ++ uns m)
section
variable {K : PySem.W.Frag} {Z : Zx} {H0 H0' : Hp} {pv : List V}
theorem sts_uns (n : Nat) : ∀ m, Sts K Z H0 pv (List.replicate m none) (uns m) []
  | 0 => .nil
  | m + 1 => .un (sts_uns n m)
theorem sts_entry {m : Nat} : ∀ {us : List V} {ts : List T} {G : Fp} (k : Nat), RepTs K Z H0 us ts G → (∀ j v, us[j]? = some v → pv[k + j]? = some v) → Sts K Z H0 pv (us.map some ++ List.replicate m none) (entryS ts k ++ uns m) G
  | _, _, _, k, .nil, _ => sts_uns 0 m
  | _, _, _, k, .cons (v := v) (t := t) (G1 := G1) r rs, hp => by
    have ih := sts_entry (m := m) (k + 1) rs fun j u h => by
      have := hp (j + 1) u (by simpa using h)
      rw [show k + 1 + j = k + (j + 1) by omega]; exact this
    have h0 : pv[k]? = some v := by have := hp 0 v rfl; simpa using this
    cases t with
    | fz w => exact .lo r ih
    | lst w => exact .mp h0 r ih
    | dK w => exact .mp h0 r ih
    | dT w => exact .mp h0 r ih
    | ins c w => exact .mp h0 r ih
    | wo w _ => exact .mp h0 r ih
    | dR w => exact .mp h0 r ih
    | dd w => exact .mp h0 r ih
theorem out_ok (ex : Ex H0 H0') : ∀ {us : List V} {ts : List T} {Ga : Fp} {σ : L2.St} {st : S} {G : Fp} {ts' : List T} (j : Nat), RepTs K Z H0 us ts Ga → Sts K Z H0' pv σ st G → outT ts st j = some ts' → (∀ i v, us[i]? = some v → pv[j + i]? = some v) →
    ∃ Ga' Gd, G.Perm (Ga' ++ Gd) ∧ RepTs K Z H0' us ts' Ga'
  | _, _, _, _, _, G, ts', j, .nil, _, e, _ => by cases e; exact ⟨[], G, .refl _, .nil⟩
  | _, t :: ts, _, _, st, _, ts', j, .cons (v := v) (vs := us) r rs, ss, e, hp => by
    have hp' : ∀ (i : Nat) (u : V), us[i]? = some u → pv[j + 1 + i]? = some u := fun i u h => by
      have := hp (i + 1) u (by simpa using h)
      rw [show j + 1 + i = j + (i + 1) by omega]; exact this
    have key : ∀ (s : Sl) (st2 : S) (G : Fp) (σ : L2.St), Sts K Z H0' pv σ (s :: st2) G → (match s with | .mp k t' => if k = j then (outT ts st2 (j + 1)).map (t' :: ·) else none | _ => none) = some ts' → ∃ Ga' Gd, G.Perm (Ga' ++ Gd) ∧ RepTs K Z H0' (v :: _) ts' Ga' := fun s st2 G σ ss e => by
      cases ss with
      | un _ => cases e
      | lo _ _ => cases e
      | fr _ _ _ => cases e
      | mp z q ss =>
        rename_i v' k t' σ' Gx Gy
        replace e : (if k = j then (outT ts st2 (j + 1)).map (t' :: ·) else none) = some ts' := e
        by_cases hk : k = j
        · rw [if_pos hk] at e
          obtain ⟨ts2, h1, rfl⟩ := Option.map_eq_some_iff.mp e
          subst hk
          have h0 : pv[k]? = some v := by have := hp 0 v rfl; simpa using this
          rw [h0] at z; cases z
          obtain ⟨Ga', Gd, p, r2⟩ := out_ok ex (k + 1) rs ss h1 hp'
          refine ⟨Gx ++ Ga', Gd, ?_, .cons q r2⟩
          rw [List.append_assoc]
          exact List.Perm.append_left Gx p
        · rw [if_neg hk] at e; cases e
    cases st with
    | nil => cases t <;> cases e
    | cons s st2 =>
      cases t with
      | fz w =>
        have e' : (outT ts st2 (j + 1)).map (.fz w :: ·) = some ts' := e
        obtain ⟨ts2, h1, rfl⟩ := Option.map_eq_some_iff.mp e'
        cases r with
        | fz r =>
        cases ss with
        | un ss =>
          obtain ⟨Ga', Gd, p, r2⟩ := out_ok ex (j + 1) rs ss h1 hp'
          exact ⟨Ga', Gd, p, .cons (G1 := []) (.fz (r.mono ex)) r2⟩
        | lo q ss =>
          rename_i Gx Gy
          obtain ⟨Ga', Gd, p, r2⟩ := out_ok ex (j + 1) rs ss h1 hp'
          refine ⟨Ga', Gd ++ Gx, ?_, .cons (G1 := []) (.fz (r.mono ex)) r2⟩
          rw [← List.append_assoc]
          exact List.perm_append_comm.trans (List.Perm.append_right Gx p)
        | mp z q ss =>
          rename_i Gx Gy
          obtain ⟨Ga', Gd, p, r2⟩ := out_ok ex (j + 1) rs ss h1 hp'
          refine ⟨Ga', Gd ++ Gx, ?_, .cons (G1 := []) (.fz (r.mono ex)) r2⟩
          rw [← List.append_assoc]
          exact List.perm_append_comm.trans (List.Perm.append_right Gx p)
        | fr z q ss =>
          rename_i Gx Gy
          obtain ⟨Ga', Gd, p, r2⟩ := out_ok ex (j + 1) rs ss h1 hp'
          refine ⟨Ga', Gd ++ Gx, ?_, .cons (G1 := []) (.fz (r.mono ex)) r2⟩
          rw [← List.append_assoc]
          exact List.perm_append_comm.trans (List.Perm.append_right Gx p)
      | lst w => exact key s st2 _ _ ss (by cases s <;> exact e)
      | dK w => exact key s st2 _ _ ss (by cases s <;> exact e)
      | dT w => exact key s st2 _ _ ss (by cases s <;> exact e)
      | ins c w => exact key s st2 _ _ ss (by cases s <;> exact e)
      | wo w _ => exact key s st2 _ _ ss (by cases s <;> exact e)
      | dR w => exact key s st2 _ _ ss (by cases s <;> exact e)
      | dd w => exact key s st2 _ _ ss (by cases s <;> exact e)
end
section
variable {P : Program} {w : World} {K : PySem.W.Frag} {Z : Zx} {mg : Str → Option Value} {base : Heap}
theorem body_ok {E : XK} {N ps : List Str} {c : Ct} {d : DS} {m : Nat} {vs : List V} {H : Hp} {Q : VK} (hm : Meets c ps.length m d) (hn : N.length = ps.length + m) (h : spOf K Z c vs H Q E) : vs.length = ps.length ∧ tS K Z (fun cls dx _ H => E cls dx H) d { nx := fun _ H' => Q .non H', rt := Q } (L2.start N vs) H := by
  obtain ⟨H0, F, Ga, ts, k, kx, wd, ra, hc, hk, hx, tf⟩ := h
  obtain ⟨hl, hd⟩ := hm ts k kx hc
  have hv : vs.length = ps.length := by rw [ra.length]; exact hl
  refine ⟨hv, ?_⟩
  have st0 : Sts K Z H0 vs (L2.start N vs) (entryS ts 0 ++ uns m) Ga := by
    have := sts_entry (pv := vs) (m := m) 0 ra fun j v h => by simpa using h
    unfold L2.start
    rw [hn, hv, show ps.length + m - ps.length = m by omega]
    exact this
  refine tS_seq wd st0 hd ⟨fun H1 G1 H1' σ1 st1 e1 wd1 ss1 k1 => ?_, fun H1 Gv G1 H1' σ1 st1 v t e1 wd1 rt ss1 k1 => ?_, fun _ _ _ _ _ _ _ _ z => z.elim, fun _ _ _ _ _ _ _ _ z => z.elim, ⟨tf, fun H1 G1 H1' σ1 st1 cls dx x e1 wd1 ss1 rx k1 => ?_⟩⟩
  · replace k1 : (match outT ts st1 0 with | some ts' => k (.fz .non) ts' | none => False) := k1
    cases q : outT ts st1 0 with
    | none => rw [q] at k1; exact k1.elim
    | some ts' =>
      rw [q] at k1
      obtain ⟨Ga', Gd, p, r2⟩ := out_ok e1 0 ra ss1 q fun i v h => by simpa using h
      exact hk H1 [] Ga' H1' .non (.fz .non) ts' e1 (wd1.sub p) (.fz .non) r2 k1
  · replace k1 : (match outT ts st1 0 with | some ts' => k t ts' | none => False) := k1
    cases q : outT ts st1 0 with
    | none => rw [q] at k1; exact k1.elim
    | some ts' =>
      rw [q] at k1
      obtain ⟨Ga', Gd, p, r2⟩ := out_ok e1 0 ra ss1 q fun i v h => by simpa using h
      refine hk H1 Gv Ga' H1' v t ts' e1 (wd1.sub (Gd := Gd) ?_) rt r2 k1
      rw [List.append_assoc]
      exact List.Perm.append_left Gv p
  · replace k1 : (match outT ts st1 0 with | some ts' => kx x ts' | none => False) := k1
    cases q : outT ts st1 0 with
    | none => rw [q] at k1; exact k1.elim
    | some ts' =>
      rw [q] at k1
      obtain ⟨Ga', Gd, p, r2⟩ := out_ok e1 0 ra ss1 q fun i v h => by simpa using h
      exact hx H1 Ga' H1' ts' cls dx x e1 (wd1.sub p) r2 rx k1
/-- .. with defaults -/
theorem fn_okD {x qual : Str} {params : Arguments} {body : List Stmt} {scope : Scope} {dvs : List V} {kws : List (Str × V)} {f : Addr} {fd : FuncData} {N ps : List Str} {k m : Nat} {c : Ct} {d : DS} (F : FunD K x qual params body scope dvs kws f fd) (S : FnScope N ps scope) (hm : Meets c ps.length m d) (hn : N.length = ps.length + m)
    (hb : ∀ (cdv : Value) (A : Around) (outer : List Env) (s : Shared) (H : Hp) (E : XK), Room k (A.deeper (envOfC qual scope s.heap.objs.size f cdv)) →
      PZs (cxOf (L2.CX P w) P w K mg base N qual scope f cdv A outer s H E) Z (fun cls dx _ H => E cls dx H) body d) : FnOk P w K mg base (L2.CX P w) (k + 1) f fd ps (spOf K Z c) :=
  F.ok S (fun vs H Q E h => (body_ok hm hn h).1) fun cdv A outer s H vs Q E hr h => ⟨_, hb cdv A outer s H E hr, (body_ok hm hn h).2⟩
end

/-! ### calls -/
def isIns (c : Nat) (st : S) : R → Prop
  | .w (.ins c' _) => c' = c
  | .w _ => False
  | .pk i => match getT st i with
    | some (.ins c' _) => c' = c
    | _ => False
section
variable {X : Cx} {Z : Zx} {E : XS} {e o a b : Expr} {es : List Expr} {da db dd : DE} {ds : DA} {pos apos p : Pos} {CX' : CXT} {k : Nat} {f C : Addr} {fd : FuncData} {ps : List Str} {dvs : List V} {dvl : List Value} {dws : List W} {c : Ct} {x m : Str}
theorem isIns_at {K : PySem.W.Frag} {H0 F H : Hp} {G : Fp} {pv : List V} {σ : L2.St} {st : S} {v : V} {r : R} {c : Nat} (wd : Wd H0 F G H) (ss : Sts K Z H0 pv σ st G) (rr : RepR K Z H0 σ v r) (h : isIns c st r) :
    ∃ a dx fs n, v = .ref a ∧ H a = some (.ins (Z.cls c) dx fs) ∧ fs.map (·.1) = (fldN c).take n := by
  cases rr with
  | w rv =>
    cases rv with
    | ins _ hi hn hr => cases h; exact ⟨_, _, _, _, rfl, wd.ex _ _ hi, by rw [hn, List.take_length]⟩
    | _ => exact h.elim
  | pk hv =>
    rename_i i
    replace h : (match getT st i with | some (.ins c' _) => c' = c | _ => False) := h
    cases q : getT st i with
    | none => rw [q] at h; exact h.elim
    | some t =>
      rw [q] at h
      cases t with
      | ins c' ts =>
        replace h : c' = c := h
        subst h
        obtain ⟨G1, A, B, h1, h2, _⟩ := ss.own q hv
        cases h1 with
        | @ins p c dx fs ts G _ n r => subst h2; exact ⟨p, dx, fs, _, rfl, wd.ow (p, .ins (Z.cls c') dx fs) (by simp), n⟩
      | _ => exact h.elim
theorem no_field {c n : Nat} {fs : List (Str × V)} {m : Str} (h : fs.map (·.1) = (fldN c).take n) (hm : m ∉ fldN c) : fs.lookup m = none := by
  have : m ∉ fs.map (·.1) := fun z => hm (List.mem_of_mem_take (by rw [← h]; exact z))
  clear h
  induction fs with
  | nil => rfl
  | cons p fs ih =>
    rw [List.map_cons, List.mem_cons, not_or] at this
    rw [List.lookup_cons]
    have e : (m == p.1) = false := by simpa using this.1
    rw [e]
    exact ih this.2
theorem make_core {K : PySem.W.Frag} {cid : Nat} (hz : Z.has cid = true) {σ : L2.St} {H1 H1' F : Hp} {G1 : Fp} {pv : List V} {st1 : S} {vs : List V} {rs : List R} {ts : List T} {k : T → S → Prop} {kx : KX} {Q : VK} (wd1 : Wd H1 F G1 H1') (ss1 : Sts K Z H1 pv σ st1 G1) (rr : RepRs K Z H1 σ vs rs) (hdw : ∀ H0, Reps K Z H0 dvs dws)
    (h1 : noPk rs = true) (q : argT st1 rs = some ts) (k1 : c (.ins cid [] :: (ts ++ dws.map .fz)) (fun t ts' => match t, ts' with
    | .fz .non, me :: _ => k me st1
    | _, _ => False) (fun e _ => kx e st1)) (hk : AccW K Z F pv σ H1 k Q) (hx : AccXe K Z E F pv σ H1 kx) : ∀ x dx, H1' x = none → H1' dx = none → dx ≠ x → spOf K Z c (.ref x :: (vs ++ dvs)) (upd (upd H1' dx (.own x)) x (.ins (Z.cls cid) dx [])) (fun v H2 => v = .non ∧ Q (.ref x) H2) (fun cls dx H => E cls dx σ H) := by
    intro x dx hxn hdn hne
    have ra := args_no rr h1 q
    have hx2 : (upd H1' dx (.own x)) x = none := by rw [upd_ne (fun z => hne z.symm)]; exact hxn
    have wd2 : Wd H1 F ((x, .ins (Z.cls cid) dx []) :: G1) (upd (upd H1' dx (.own x)) x (.ins (Z.cls cid) dx [])) := Wd.own (Ga := []) (Gb := G1) (wd1.junk hdn) hx2
    have r0 : RepT K Z H1 (.ref x) (.ins cid []) ([(x, .ins (Z.cls cid) dx [])]) := .ins (G := []) hz rfl .nil
    have w3 : Wd H1 F ([(x, HO.ins (Z.cls cid) dx [])] ++ G1) _ := wd2
    refine ⟨H1, addF F G1, [(x, .ins (Z.cls cid) dx [])] ++ [], _, _, _, ?_, .cons r0 (ra.app (.ofFz (hdw H1))), k1, fun H0' Gv Ga' H' v t ts' ex wd4 rt rts kt => ?_, fun H0' Ga' H' ts' cls d' xw ex wd4 rts rx kt => ?_, hx.tabs.add w3⟩
    · rw [List.append_nil]; exact w3.toCall
    · have w5 := w3.ofCall wd4
      cases t with
      | fz wv =>
        cases wv with
        | non =>
          cases rt with
          | fz rt =>
            cases rt
            cases rts with
            | cons r1 r2 =>
              rename_i me ts2 Gm G2
              refine ⟨rfl, hk H0' Gm G1 H' st1 (.ref x) me ex (w5.sub (Gd := G2) ?_) r1 (ss1.mono ex) kt⟩
              show ([] ++ (Gm ++ G2) ++ G1).Perm (Gm ++ G1 ++ G2)
              rw [List.nil_append, List.append_assoc, List.append_assoc]
              exact List.Perm.append_left Gm List.perm_append_comm
        | _ => exact kt.elim
      | _ => exact kt.elim
    · have w5 := w3.ofCall wd4
      exact hx H0' G1 H' st1 cls d' xw ex (w5.sub (Gd := Ga') List.perm_append_comm) (ss1.mono ex) rx kt
end
end Y
/-! a text times a number -/
namespace Y
open PySem L2
open PySem.Spec PyProof.Rows
def repS (z : Str) (n : Nat) : Str := ⟨(List.replicate n z.cps.toList).flatten.toArray⟩
theorem repS_0 (z : Str) : repS z 0 = Str.empty := rfl
theorem repS_1 (z : Str) : repS z 1 = z := by
  unfold repS
  cases z
  simp
theorem repS_fold (z : Str) (n : Nat) : (⟨(List.replicate n z.cps).foldl (· ++ ·) #[]⟩ : Str) = repS z n := by
  have key : ∀ (n : Nat) (a : Array Nat), ((List.replicate n z.cps).foldl (· ++ ·) a).toList = a.toList ++ (List.replicate n z.cps.toList).flatten := by
    intro n
    induction n with
    | zero => intro a; simp
    | succ n ih => intro a; rw [List.replicate_succ, List.foldl_cons, ih, List.replicate_succ, List.flatten_cons, Array.toList_append, List.append_assoc]
  unfold repS
  congr 1
  apply Array.toList_inj.mp
  rw [key]
  rfl
theorem repS_len (z : Str) (n : Nat) : (repS z n).length = n * z.length := by
  show (List.replicate n z.cps.toList).flatten.toArray.size = n * z.cps.size
  rw [List.size_toArray, List.length_flatten, List.map_replicate, List.sum_replicate_nat]
  rfl
def rRepS : R2 := fun x y H Q => ∃ (z : Str) (k : Int), x = .str z ∧ y = .int k ∧ -(2 ^ 63) ≤ k ∧ k < 2 ^ 63 ∧ z.length * k.toNat ≤ 1000000 ∧ Q (.str (repS z k.toNat)) H
theorem op_repS {X : Cx} : OpR X (binaryOp .Mult) rRepS := by
  intro pins s σ H x y v u Q I rx ry h
  obtain ⟨z, k, rfl, rfl, h1, h2, hz, q⟩ := h
  obtain ⟨t, rfl⟩ := rx
  obtain ⟨t', rfl⟩ := ry
  have hline : (1000000 : Nat) ≤ sizeLine := by decide
  refine P.mul_str (by rw [decide_eq_false (by omega), decide_eq_false (by omega)]; rfl) (fun hk _ => ?_) (fun hk _ => ?_) ?_
  · intro hgt
    have hk' : 0 < k := by omega
    have e : (z.length : Int) * k = ((z.length * k.toNat : Nat) : Int) := by
      rw [Int.natCast_mul]
      congr 1
      omega
    have : (z.length : Int) ≤ (2 ^ 63 - 1) / k := Int.le_ediv_of_mul_le hk' (by rw [e]; omega)
    omega
  · show decide (z.length * k.toNat > sizeLine) = false
    exact decide_eq_false (by omega)
  · split
    · rename_i hk
      rw [show k.toNat = 0 by omega, repS_0] at q
      exact ⟨by decide, .str Str.empty, H, I.tok _, ⟨_, rfl⟩, q⟩
    · rename_i hk
      split
      · rename_i h'
        have e : repS z k.toNat = z := by
          rw [Bool.or_eq_true] at h'
          rcases h' with h' | h'
          · rw [show k.toNat = 1 by have := eq_of_beq h'; omega]; exact repS_1 z
          · have h0 : z.length = 0 := eq_of_beq h'
            have : (repS z k.toNat).length = 0 := by rw [repS_len, h0, Nat.mul_zero]
            have a : z.cps = #[] := Array.eq_empty_of_size_eq_zero h0
            have b : (repS z k.toNat).cps = #[] := Array.eq_empty_of_size_eq_zero this
            cases z
            simp only at a
            subst a
            exact congrArg Str.mk b
        rw [e] at q
        exact ⟨.str z, H, I, ⟨_, rfl⟩, q⟩
      · refine ⟨?_, .str (repS z k.toNat), H, I.tok _, ⟨_, by rw [repS_fold]⟩, q⟩
        rw [repS_fold]
        show (repS z k.toNat).length ≤ _
        rw [repS_len, Nat.mul_comm]
        exact Nat.le_trans hz (by decide)
end Y
namespace Y
open PySem L2
open PySem.Spec PyProof.Rows
open Evl (Ex)

/-! ### + and * of whatever: numbers, texts, lists, tuples -/
def rPlus (K : PySem.W.Frag) : R2 := fun x y H Q => rI0 (fun i j => .int (i + j)) x y H Q ∨ (∃ i j, x = .str i ∧ y = .str j ∧ i.length + j.length ≤ sizeLine ∧ Q (.str (i ++ j)) H) ∨ rCat x y H Q ∨ rCatA K x y H Q
def oPlus : O2 := fun a b k => match a, b with
  | .int i, .int j => k (.int (i + j))
  | .str i, .str j => i.length + j.length ≤ sizeLine ∧ k (.str (i ++ j))
  | .lst i, .lst j => i.length + j.length ≤ sizeLine ∧ k (.lst (i ++ j))
  | .tup i, .tup j => i.length + j.length ≤ sizeLine ∧ k (.tup (i ++ j))
  | _, _ => False
def rTimes : R2 := fun x y H Q => rI CMulW (fun i j => .int (i * j)) x y H Q ∨ rRep x y H Q ∨ rRepS x y H Q
def oTimes : O2 := fun a b k => match a, b with
  | .int i, .int j => CMulW i j ∧ k (.int (i * j))
  | .lst i, .int j => (-(2 ^ 63) ≤ j ∧ j < 2 ^ 63 ∧ i.length * j.toNat ≤ sizeLine) ∧ k (.lst (List.replicate j.toNat i).flatten)
  | .str i, .int j => (-(2 ^ 63) ≤ j ∧ j < 2 ^ 63 ∧ i.length * j.toNat ≤ 1000000) ∧ k (.str (repS i j.toNat))
  | _, _ => False
section
variable {K : PySem.W.Frag} {Z : Zx}
theorem Reps.rep {H : Hp} {xs : List V} {ws : List W} (r : Reps K Z H xs ws) : ∀ n : Nat, Reps K Z H (List.replicate n xs).flatten (List.replicate n ws).flatten
  | 0 => .nil
  | n + 1 => by
    rw [List.replicate_succ, List.replicate_succ, List.flatten_cons, List.flatten_cons]
    exact r.append (Reps.rep r n)
theorem Fin.newL {H0 H : Hp} {k : W → Prop} {Q : VK} {xs : List V} {ws : List W} (f : Fin K Z H0 H k Q) (e : Ex H0 H) (r : Reps K Z H0 xs ws) (h : k (.lst ws)) : ∀ p, H p = none → Q (.ref p) (upd H p (.lst xs)) := fun p hp => by
  have g := Gr.one (o := .lst xs) e hp
  exact f _ _ _ _ g (.lst upd_same (r.mono g.e0)) h
theorem Fin.newT {H0 H : Hp} {k : W → Prop} {Q : VK} {xs : List V} {ws : List W} (f : Fin K Z H0 H k Q) (e : Ex H0 H) (r : Reps K Z H0 xs ws) (h : k (.tup ws)) : ∀ p, H p = none → Q (.ref p) (upd H p (.tup xs)) := fun p hp => by
  have g := Gr.one (o := .tup xs) e hp
  exact f _ _ _ _ g (.tup (.of upd_same) (r.mono g.e0)) h
theorem opd_plus : OpD K Z (rPlus K) oPlus := by
  intro H0 H v1 w1 v2 w2 k Q e r1 r2 o f
  unfold oPlus at o
  split at o
  · exact .inl ⟨_, _, r1.int_of, r2.int_of, f.same e .int o⟩
  · exact .inr (.inl ⟨_, _, r1.str_of, r2.str_of, o.1, f.same e .str o.2⟩)
  · obtain ⟨p, xs, rfl, h1, rs⟩ := r1.lst_of e
    obtain ⟨q, ys, rfl, h2, rs2⟩ := r2.lst_of e
    exact .inr (.inr (.inl ⟨p, q, xs, ys, rfl, rfl, h1, h2, by rw [rs.length, rs2.length]; exact o.1, f.newL e (rs.append rs2) o.2⟩))
  · rename_i wi wj
    obtain ⟨p, xs, rfl, h1, rs⟩ := r1.tup_of e
    obtain ⟨q, ys, rfl, h2, rs2⟩ := r2.tup_of e
    refine .inr (.inr (.inr ⟨p, q, xs, ys, rfl, rfl, h1, h2, by rw [rs.length, rs2.length]; exact o.1, fun z => ?_, fun z z2 => ?_, fun z z2 => f.newT e (rs.append rs2) o.2⟩))
    · subst z
      cases rs
      have o2 : k (.tup ([] ++ wj)) := o.2
      rw [List.nil_append] at o2
      cases r2 with
      | fz r2 => exact f.same e r2 o2
    · subst z2
      cases rs2
      have o2 : k (.tup (wi ++ [])) := o.2
      rw [List.append_nil] at o2
      cases r1 with
      | fz r1 => exact f.same e r1 o2
  · exact o.elim
theorem opd_times : OpD K Z rTimes oTimes := by
  intro H0 H v1 w1 v2 w2 k Q e r1 r2 o f
  unfold oTimes at o
  split at o
  · exact .inl ⟨_, _, r1.int_of, r2.int_of, o.1, f.same e .int o.2⟩
  · obtain ⟨p, xs, rfl, h1, rs⟩ := r1.lst_of e
    exact .inr (.inl ⟨p, _, xs, rfl, r2.int_of, h1, o.1.1, o.1.2.1, by rw [rs.length]; exact o.1.2.2, f.newL e (rs.rep _) o.2⟩)
  · exact .inr (.inr ⟨_, _, r1.str_of, r2.int_of, o.1.1, o.1.2.1, o.1.2.2, f.same e .str o.2⟩)
  · exact o.elim
end
/-! ### o[i] of whatever: a list, a tuple, a dict -/
def rSub (K : PySem.W.Frag) : R2 := fun x y H Q => rIx K x y H Q ∨ rDGet x y H Q
def oSub' : O2 := fun a b k => match a with
  | .lst _ => oIx a b k
  | .tup _ => oIx a b k
  | .dK _ => oDGet a b k
  | .dF _ => oDGet a b k
  | .str z => (match b with
    | .int i => z.length ≤ sizeLine ∧ ∃ c, L2.atI z.cps.toList i = some c ∧ k (.str ⟨#[c]⟩)
    | _ => False)
  | _ => False
theorem opd_sub {K : PySem.W.Frag} {Z : Zx} : OpD K Z (rSub K) oSub' := by
  intro H0 H v1 w1 v2 w2 k Q e r1 r2 o f
  cases w1 with
  | lst ws => exact .inl (opd_ix H0 H v1 _ v2 w2 k Q e r1 r2 o f)
  | tup ws => exact .inl (opd_ix H0 H v1 _ v2 w2 k Q e r1 r2 o f)
  | dK ws => exact .inr (opd_dget H0 H v1 _ v2 w2 k Q e r1 r2 o f)
  | dF ws => exact .inr (opd_dget H0 H v1 _ v2 w2 k Q e r1 r2 o f)
  | str z =>
    cases w2 with
    | int i =>
      obtain ⟨hl, c, hc, hk⟩ := o
      have e1 := r1.str_of
      have e2 := r2.int_of
      subst e1 e2
      exact .inl (.inr (.inr ⟨z, i, c, rfl, rfl, hl, hc, f.same e .str hk⟩))
    | _ => exact o.elim
  | _ => exact o.elim
section
variable {X : Cx} {Z : Zx} {E : XS} {e a b c o i v : Expr} {es : List Expr} {da db dc dd dk dv : DE} {ds : DA} {dl : DL} {dw : DW} {pos pos' apos cpos p : Pos}
theorem ix_dict (hu : X.A.units + 1 < cLine) : IxR X rDGet := by
  intro value slice pins s σ H x y v u Q I rx ry h hs
  obtain ⟨a, v', rfl, g, q⟩ := h
  cases rx
  have hT := dict_typeIs I g
  have h2 : wpAny (model X.prog X.w) X.A (getItem (.ref a) u) (EP X pins σ Q) X.xe s := d_getItem hu I g ry fun w' s3 I3 rw' => ⟨v', H, I3, rw', q⟩
  unfold subscriptTail
  refine wpAny_bind ?_
  rw [getitemInPython_of_ne hT.not_modules]
  refine wpAny_bind (wpAny_specialOf hT PySem.F.slot_dict_getitem.lookup ?_)
  have fin : wpAny (model X.prog X.w) X.A (subscripted slice false (.ref a) u) (fun r s₃ => wpAny (model X.prog X.w) X.A (letTemporaryGo value (.ref a) r >>= fun _ => pure r) (EP X pins σ Q) X.xe s₃) X.xe s := by
    rw [hs]
    exact wpAny_operating (wpAny_mono h2 (fun r s₃ h₃ => wpAny_bind (wpAny_letTemporaryGo (wpAny_pure h₃))) fun _ _ x => x)
  first
    | exact wpAny_pure (wpAny_bind fin)
    | exact wpAny_bind (wpAny_pure (wpAny_bind fin))
    | exact wpAny_bind fin
theorem pd_subs (hu : X.A.units + 1 < cLine) (ha : PD X Z E a da) (hb : PD X Z E b db) (hs : PlainIx b) : PD X Z E (.Subscript a b pos) (dOp oSub' da db) := pd_ix (r := rSub X.K) (ix_seq.or (ix_dict hu)) opd_sub ha hb hs
theorem pd_plus (ha : PD X Z E a da) (hb : PD X Z E b db) : PD X Z E (.BinOp a .Add b pos) (dOp oPlus da db) := pd_op (r := rPlus X.K) (op_add.or (op_add_str.or (op_cat.or op_catA))) opd_plus ha hb
theorem pd_times (ha : PD X Z E a da) (hb : PD X Z E b db) : PD X Z E (.BinOp a .Mult b pos) (dOp oTimes da db) := pd_op (r := rTimes) (op_mulW.or (op_rep.or op_repS)) opd_times ha hb
/-! a < b < c -/
/-! ### a loop over a list or a tuple -/
def iSq (d : DE) : DI := fun st k x => d st (fun r st1 => match r with
  | .w (.lst ws) => k ws st1
  | .w (.tup ws) => k ws st1
  | .w (.str z) => k (z.cps.toList.map fun c => .str ⟨#[c]⟩) st1
  | _ => False) x
theorem it_str {K : PySem.W.Frag} {Z : Zx} {H0 : Hp} (z : Str) : ItOk K Z H0 (Its z) (z.cps.toList.map fun c => W.str ⟨#[c]⟩) := fun i H Hc e e' => by
  refine ⟨fun hl => show z.cps.size ≤ i by simpa using hl, fun w hw => ?_⟩
  rw [List.getElem?_map] at hw
  obtain ⟨c, h1, rfl⟩ := Option.map_eq_some_iff.mp hw
  obtain ⟨h2, _⟩ := List.getElem?_eq_some_iff.mp h1
  refine ⟨show i < z.cps.size by simpa using h2, fun x H' y => ?_⟩
  obtain ⟨rfl, c', h3, rfl⟩ := y
  rw [Array.getElem?_toList] at h1
  rw [h1] at h3
  cases h3
  exact ⟨Hc, Gr.refl e', .str⟩
theorem pi_sq {tg l : Expr} {tl : TE} (hl : PE X l tl) : PI X tg l (fun σ H R => tl σ H fun x H1 => (∃ a, x = .ref a ∧ (∃ xs, SqL X.K H1 a xs) ∧ R (Itl X.K a) H1) ∨ (∃ a, x = .ref a ∧ (∃ xs, SqT X.K H1 a xs) ∧ R (Itt X.K a) H1) ∨ ∃ z, x = .str z ∧ R (Its z) H1) := by
  refine ⟨fun pins s σ H R I h => ?_⟩
  refine thn (hl.run pins s σ H _ I h) fun v s1 ⟨x, H1, I1, r1, q1⟩ => ?_
  rcases q1 with ⟨a, e, ⟨xs, hq⟩, q⟩ | ⟨a, e, ⟨xs, hq⟩, q⟩ | ⟨z, e, q⟩
  · subst e
    cases r1
    obtain ⟨its, rv, p, hz⟩ := I1.list hq
    refine wpAny_pyIter_list p.isList ?_
    refine ⟨s1.heap.objs.size, [s1.heap.objs.size], _, _, H1, rfl, I1.kept (t' := s1.toks) fun b o e => Heap.get?_push_of_some _ e, turn_list a _, ⟨_, Heap.get?_push_size _ rfl, rfl, rfl⟩, fun b hb => ?_, q⟩
    have e : b = s1.heap.objs.size := by simpa using hb
    subst e
    exact I1.fpOk (Nat.le_refl _) (I1.hok.fresh (Nat.le_refl _))
  · subst e
    cases r1
    obtain ⟨its, rv, p, hz⟩ := I1.tuple hq
    refine wpAny_pyIter_tuple (show s1.heap.IsTuple a its.toArray from p) ?_
    refine ⟨s1.heap.objs.size, [s1.heap.objs.size], _, _, H1, rfl, I1.kept (t' := s1.toks) fun b o e => Heap.get?_push_of_some _ e, turn_tuple a _, ⟨_, Heap.get?_push_size _ rfl, rfl, rfl⟩, fun b hb => ?_, q⟩
    have e : b = s1.heap.objs.size := by simpa using hb
    subst e
    exact I1.fpOk (Nat.le_refl _) (I1.hok.fresh (Nat.le_refl _))
  · subst e
    obtain ⟨t, rfl⟩ := r1
    cases ha : z.cps.all (· < 128)
    · exact wpAny_pyIter_wide ha (pi_one (tk := s1.toks) I1 _ (turn_str _ z t "str_iterator" (.inr rfl)) ⟨_, Heap.get?_push_size _ rfl, rfl, rfl⟩ q)
    · exact wpAny_pyIter_ascii ha (pi_one (tk := s1.toks) I1 _ (turn_str _ z t "str_ascii_iterator" (.inl rfl)) ⟨_, Heap.get?_push_size _ rfl, rfl, rfl⟩ q)
theorem pid_sq {tg : Expr} (h : PD X Z E e da) : PID X Z E tg e (iSq da) := by
  refine pi_weak (pi_sq h) fun σ H Q q => ?_
  obtain ⟨H0, F, G, pv, st, k, kx, wd, ss, hd, hk, hx⟩ := q
  refine tE_seq wd ss hx hd fun H1 G1 H1' st1 v r e1 wd1 ss1 rr k1 => ?_
  cases rr with
  | pk _ => exact k1.elim
  | w rv => cases rv with
    | lst hs rs => exact .inl ⟨_, rfl, ⟨_, .of (wd1.ex _ _ hs)⟩, hk _ _ _ _ _ _ e1 wd1 ss1 (it_list (.of hs) rs) k1⟩
    | tup hs rs => exact .inr (.inl ⟨_, rfl, ⟨_, Evl.ex_t wd1.ex hs⟩, hk _ _ _ _ _ _ e1 wd1 ss1 (it_tup hs rs) k1⟩)
    | str => exact .inr (.inr ⟨_, rfl, hk _ _ _ _ _ _ e1 wd1 ss1 (it_str _) k1⟩)
    | _ => exact k1.elim

/-! ### truth of a value -/
def tru : W → Option Bool
  | .non => some false
  | .bl b => some b
  | .int i => some (i != 0)
  | .str s => if s.length ≤ sizeLine then some ((s.length : Int) != 0) else none
  | .lst ws => some (!ws.isEmpty)
  | .tup ws => some (!ws.isEmpty)
  | _ => none
def dTru (d : DE) : DT := fun st k x => d st (fun r st1 => match (r.val st1).bind tru with
  | some b => k b st1
  | none => False) x
theorem reps_empty {K : PySem.W.Frag} {H : Hp} {xs : List V} {ws : List W} (r : Reps K Z H xs ws) : (!xs.isEmpty) = !ws.isEmpty := by cases r <;> rfl
theorem tru_val {K : PySem.W.Frag} {H0 H : Hp} {v : V} {w : W} {b : Bool} (e : Ex H0 H) (r : RepP K Z H0 H v w) (h : tru w = some b) : TruV K v H b := by
  cases w with
  | non => rw [r.non_of]; cases h; rfl
  | bl c => rw [r.bl_of]; cases h; rfl
  | int i => rw [r.int_of]; cases h; rfl
  | str s =>
    rw [r.str_of]
    replace h : (if s.length ≤ sizeLine then some ((s.length : Int) != 0) else none) = some b := h
    by_cases hl : s.length ≤ sizeLine
    · rw [if_pos hl] at h; cases h; exact ⟨hl, rfl⟩
    · rw [if_neg hl] at h; cases h
  | lst ws =>
    obtain ⟨p, xs, rfl, h1, rs⟩ := r.lst_of e
    cases h
    exact .inl ⟨xs, .of h1, (reps_empty rs).symm⟩
  | tup ws =>
    obtain ⟨p, xs, rfl, h1, rs⟩ := r.tup_of e
    cases h
    exact .inr (.inl ⟨xs, h1, (reps_empty rs).symm⟩)
  | _ => cases h
theorem ptd_tru (h : PD X Z E e da) (he : ∀ whole, isTrue e X.env whole = (do let v ← whole; standAt e.pos; holding [v] (truthy v)) := by intro _; rfl) : PTD X Z E e (dTru da) := by
  refine pt_weak (pt_truth h he) fun σ H Q q => ?_
  obtain ⟨H0, F, G, pv, st, k, kx, wd, ss, hd, hk, hx⟩ := q
  refine tE_seq wd ss hx hd fun H1 G1 H1' st1 v r e1 wd1 ss1 rr k1 => ?_
  cases q1 : (r.val st1).bind tru with
  | none => rw [q1] at k1; exact k1.elim
  | some b =>
    rw [q1] at k1
    obtain ⟨w, h1, h2⟩ := Option.bind_eq_some_iff.mp q1
    exact ⟨b, tru_val wd1.ex (rr.peek ss1 wd1 h1) h2, hk _ _ _ _ _ e1 wd1 ss1 k1⟩

/-! ### methods that change an owned list -/
/-- f: the arguments, the list; the answer, the list behind -/
def dMutL (f : List W → List W → (W → List W → Prop) → Prop) (d : DE) (a : DA) : DE := fun st k x => d st (fun r st0 => match r with
  | .pk i => (match getT st0 i with
    | some (.lst _) => a st0 (fun rs st1 => (match frs' rs, getT st1 i with
      | some ws, some (.lst xs) => (f ws xs fun w ys => k (.w w) (setT st1 i (.lst ys)))
      | _, _ => False)) x
    | _ => False)
  | _ => False) x
def MutD (K : PySem.W.Frag) (Z : Zx) (r : V → List V → Hp → VK → Prop) (f : List W → List W → (W → List W → Prop) → Prop) : Prop :=
  ∀ H0 H p xs ws vs us k Q, Ex H0 H → H p = some (.lst xs) → Reps K Z H0 xs ws → Reps K Z H0 vs us → f us ws k → (∀ v w ys zs, Rep K Z H0 v w → Reps K Z H0 ys zs → k w zs → Q v (upd H p (.lst ys))) → r (.ref p) vs H Q
theorem dmut_ok {f : List W → List W → (W → List W → Prop) → Prop} {r : V → List V → Hp → VK → Prop} (hm : MutD X.K Z r f) {σ : L2.St} {H : Hp} {Q : VK} (q : tE X.K Z E (dMutL f dd ds) σ H Q) : tBM X.K "list" r (tE X.K Z E dd) (tAr X.K Z E ds) σ H Q := by
  obtain ⟨H0, F, G, pv, st, k, kx, wd, ss, hd, hk, hx⟩ := q
  refine tE_seq wd ss hx hd fun H1 G1 H1' st1 v r1 e1 wd1 ss1 rr k1 => ?_
  cases rr with
  | w _ => exact k1.elim
  | pk hv =>
    rename_i i
    replace k1 : (match getT st1 i with
      | some (.lst _) => ds st1 (fun rs st2 => (match frs' rs, getT st2 i with
        | some ws, some (.lst xs) => (f ws xs fun w ys => k (.w w) (setT st2 i (.lst ys)))
        | _, _ => False)) kx
      | _ => False) := k1
    cases q1 : getT st1 i with
    | none => rw [q1] at k1; exact k1.elim
    | some t =>
      rw [q1] at k1
      cases t with
      | lst xs0 =>
        obtain ⟨G0, A, B, h1, h2, _⟩ := ss1.own q1 hv
        cases h1 with
        | @lst p xs0' _ rs0 =>
          subst h2
          have hp0 : H1' p = some (.lst xs0') := wd1.ow (p, _) (by simp)
          refine ⟨.inl ⟨rfl, _, .of hp0⟩, ?_⟩
          refine tA_seq wd1 ss1 (hx.up e1) k1 fun H2 G2 H2' st2 vs rs e2 wd2 ss2 rrs k2 => ?_
          replace k2 : (match frs' rs, getT st2 i with
            | some ws, some (.lst xs) => (f ws xs fun w ys => k (.w w) (setT st2 i (.lst ys)))
            | _, _ => False) := k2
          cases q2 : frs' rs with
          | none => rw [q2] at k2; exact k2.elim
          | some ws =>
            cases q3 : getT st2 i with
            | none => rw [q2, q3] at k2; exact k2.elim
            | some t =>
              rw [q2, q3] at k2
              cases t with
              | lst xs =>
                obtain ⟨G3, A3, B3, h4, h5, h6⟩ := ss2.own q3 hv
                cases h4 with
                | @lst _ xs3 _ rs3 =>
                  subst h5
                  have hp : H2' p = some (.lst xs3) := wd2.ow (p, _) (by simp)
                  refine hm H2 H2' p xs3 xs vs ws _ Q wd2.ex hp rs3 (rrs.frs q2) k2 fun v w ys zs rv ry kk => ?_
                  exact hk _ _ _ _ _ _ (e1.trans e2) wd2.write (h6 H2 (.lst zs) _ (Ex.refl _) (.lst ry)) (.w rv) kk
              | _ => exact k2.elim
      | _ => exact k1.elim
def fAppend : List W → List W → (W → List W → Prop) → Prop := fun ws xs k => match ws with
  | [w] => xs.length < sizeLine ∧ k .non (xs ++ [w])
  | _ => False
theorem mut_append {K : PySem.W.Frag} : MutD K Z rAppend fAppend := by
  intro H0 H p xs ws vs us k Q e hp r1 r2 h f
  unfold fAppend at h
  split at h
  · cases r2 with
    | cons r t =>
      cases t
      exact ⟨p, xs, _, rfl, rfl, hp, by rw [r1.length]; exact h.1, f _ _ _ _ .non (r1.append (.one r)) h.2⟩
  · exact h.elim
theorem pd_append (ho : PD X Z E o dd) (ha : PAD X Z E [e] ds)
    (hbase : attributeBase o "append" X.env (eval o X.env) = eval o X.env := by rfl)
    (hfew : ((backTo cpos (starEach [e] X.env)).all (fun x => !x.1) && (backToKw cpos (keywordEach [] X.env)).all (fun x => x.1.isSome)
      && decide ([e].length + ([] : List Keyword).length + (if ([] : List Keyword).isEmpty then 0 else 1) < 30)) = true := by rfl)
    (hline : (apos.endLine == cpos.line) = true := by rfl) (hs : starEach [e] X.env = (false, eval e X.env) :: starEach [] X.env := by rfl) (hplain : (backTo cpos (starEach [] X.env)).any (·.1) = false := by rfl) :
    PD X Z E (.Call (.Attribute o "append" apos) [e] [] cpos) (dMutL fAppend dd ds) :=
  pe_weak (pe_bm PySem.F.plainAttrs_list PySem.F.slot_list_append PySem.F.type_list_append mt_append ho ha hbase hfew hline hs hplain) fun _ _ _ => dmut_ok mut_append
end
end Y
namespace Y
open PySem L2
open PySem.Spec PyProof.Rows
open Evl (Ex)

/-! ### how a call's values reach the parameters: u positional, d the defaults, k the keywords -/
inductive Src where
  | u (i : Nat) | d (i : Nat) | k (i : Nat)
def Src.of {α : Type} (us ds ks : List α) : Src → Option α
  | .u i => us[i]?
  | .d i => ds[i]?
  | .k i => ks[i]?
def addO {α : Type} : Option α → List α → List α
  | some a, l => a :: l
  | none, l => l
def pick {α : Type} (pl : List Src) (us ds ks : List α) : List α := match pl with
  | [] => []
  | s :: pl => addO (s.of us ds ks) (pick pl us ds ks)
/-- the same, with the new instance in front -/
def Src.sh : Src → Src
  | .u i => .u (i + 1)
  | s => s
def shp (pl : List Src) : List Src := .u 0 :: pl.map Src.sh
theorem pick_sh {α : Type} (x : α) (us ds ks : List α) : ∀ pl : List Src, pick (shp pl) (x :: us) ds ks = x :: pick pl us ds ks := by
  intro pl
  show x :: pick (pl.map Src.sh) (x :: us) ds ks = _
  congr 1
  induction pl with
  | nil => rfl
  | cons s pl ih =>
    have e : (Src.sh s).of (x :: us) ds ks = s.of us ds ks := by cases s <;> rfl
    show addO ((Src.sh s).of (x :: us) ds ks) (pick (pl.map Src.sh) (x :: us) ds ks) = addO (s.of us ds ks) (pick pl us ds ks)
    rw [e, ih]
theorem vals_none {vs : List V} {us : List Value} {i : Nat} (r : Vals vs us) (h : vs[i]? = none) : us[i]? = none := by
  have := List.getElem?_eq_none_iff.mp h
  exact List.getElem?_eq_none_iff.mpr (by rw [← r.length]; exact this)
theorem pick_rel {vs ds zs : List V} {us its ws : List Value} (r1 : Vals vs us) (r2 : Vals ds its) (r3 : Vals zs ws) : ∀ pl : List Src, Vals (pick pl vs ds zs) (pick pl us its ws)
  | [] => .nil
  | s :: pl => by
    have key : ∀ {xs : List V} {ys : List Value} {i : Nat}, Vals xs ys → Vals (addO xs[i]? (pick pl vs ds zs)) (addO ys[i]? (pick pl us its ws)) := by
      intro xs ys i r
      cases q : xs[i]? with
      | none => rw [vals_none r q]; exact pick_rel r1 r2 r3 pl
      | some v =>
        obtain ⟨u, h1, h2⟩ := r.get q
        rw [h1]
        exact .cons h2 (pick_rel r1 r2 r3 pl)
    cases s with
    | u i => exact key (i := i) r1
    | d i => exact key (i := i) r2
    | k i => exact key (i := i) r3
section
variable {K : PySem.W.Frag} {Z : Zx} {H : Hp} {σ : L2.St}
theorem RepRs.getV : ∀ {vs rs} {i : Nat}, RepRs K Z H σ vs rs → match vs[i]? with
    | some v => ∃ r, rs[i]? = some r ∧ RepR K Z H σ v r
    | none => rs[i]? = none
  | _, _, i, .nil => by simp
  | _, _, 0, .cons h t => ⟨_, rfl, h⟩
  | _, _, i + 1, .cons (vs := vs) (rs := rs) h t => by
    have := RepRs.getV (i := i) t
    simpa using this
theorem pick_rr {vs ds zs : List V} {us its ws : List R} (r1 : RepRs K Z H σ vs us) (r2 : RepRs K Z H σ ds its) (r3 : RepRs K Z H σ zs ws) : ∀ pl : List Src, RepRs K Z H σ (pick pl vs ds zs) (pick pl us its ws)
  | [] => .nil
  | s :: pl => by
    have key : ∀ {xs : List V} {ys : List R} {i : Nat}, RepRs K Z H σ xs ys → RepRs K Z H σ (addO xs[i]? (pick pl vs ds zs)) (addO ys[i]? (pick pl us its ws)) := by
      intro xs ys i r
      have := RepRs.getV (i := i) r
      cases q : xs[i]? with
      | none => rw [q] at this; rw [this]; exact pick_rr r1 r2 r3 pl
      | some v =>
        rw [q] at this
        obtain ⟨u, h1, h2⟩ := this
        rw [h1]
        exact .cons h2 (pick_rr r1 r2 r3 pl)
    cases s with
    | u i => exact key (i := i) r1
    | d i => exact key (i := i) r2
    | k i => exact key (i := i) r3
theorem RepRs.ofW : ∀ {vs ws}, Reps K Z H vs ws → RepRs K Z H σ vs (ws.map .w)
  | _, _, .nil => .nil
  | _, _, .cons h t => .cons (.w h) (RepRs.ofW t)
theorem RepRs.length : ∀ {vs rs}, RepRs K Z H σ vs rs → vs.length = rs.length
  | _, _, .nil => rfl
  | _, _, .cons _ t => by rw [List.length_cons, List.length_cons, RepRs.length t]
end
section
variable {K : PySem.W.Frag} {x qual : Str} {params : Arguments} {body : List Stmt} {scope : Scope} {dvs : List V} {f : Addr} {fd : FuncData} {ps : List Str}
theorem bind0 (F : FunD K x qual params body scope [] [] f fd) (n : Nat) (ks : List Str) (pl : List Src)
    (h : ∀ (kV doc pm : Value) (an : Option Addr) (cdv ct : Value) (us ws : List Value), us.length = n → ws.length = ks.length → bindArgs (PySem.W.fnOf x qual params body scope .none kV doc pm an cdv ct) ⟨us, ks.zip ws⟩ = pure (ps.zip (pick pl us [] ws))) :
    ∃ its : List Value, KBn K fd ps n ks (fun us ws => pick pl us its ws) (fun vs zs => pick pl vs [] zs) := by
  obtain ⟨oc, od, dV, kV, doc, pm, an, cdv, ct, osl, rfl, lk, hcd, hD, hK⟩ := F.ex
  rcases hD with ⟨_, rfl⟩ | ⟨e, _⟩
  · exact ⟨[], ⟨fun s us ws X l1 l2 => .of_eq (h kV doc pm an cdv ct us ws l1 l2), fun r1 r2 => pick_rel r1 .nil r2 pl⟩⟩
  · exact absurd rfl e
theorem bindD (F : FunD K x qual params body scope dvs [] f fd) (n : Nat) (ks : List Str) (pl : List Src) (hd : dvs ≠ [])
    (h : ∀ (T : Addr) (kV doc pm : Value) (an : Option Addr) (cdv ct : Value) (us its ws : List Value), us.length = n → its.length = dvs.length → ws.length = ks.length →
      ∃ k, bindArgs (PySem.W.fnOf x qual params body scope (.ref T) kV doc pm an cdv ct) ⟨us, ks.zip ws⟩ = seqItems? (.ref T) >>= k ∧ k (some its.toArray) = pure (ps.zip (pick pl us its ws))) :
    ∃ its : List Value, KBn K fd ps n ks (fun us ws => pick pl us its ws) (fun vs zs => pick pl vs dvs zs) :=
  F.kbindsD n ks (fun us its ws => pick pl us its ws) hd (fun r1 r2 r3 => pick_rel r1 r2 r3 pl) h
end

/-! ### the calls of the library, with keywords, for methods and without positional values -/
section
variable {X : Cx} {CX : CXT} {k n : Nat} {f C : Addr} {fd : FuncData} {ps ks : List Str} {sp : Sp} {E : XS} {x m : Str} {p pos apos : Pos} {e o : Expr} {es : List Expr} {kws : List Keyword} {t tk : TA} {ta : TE} {g : List Value → List Value → List Value} {gV : List V → List V → List V}
/-- what a call may let out, at the slots as they stand -/
def PassesS (CX : CXT) (X : Cx) (E : XS) : Prop := ∀ σ, PassesAt CX X σ (fun cls d H => E cls d σ H)
abbrev tCallV (n m : Nat) (sp : Sp) (gV : List V → List V → List V) (E : XS) (t tk : TA) : TE := fun σ H Q => t σ H fun vs H1 => tk σ H1 fun zs H2 => vs.length = n ∧ zs.length = m ∧ sp (gV vs zs) H2 Q (fun cls d H => E cls d σ H)
abbrev tMakeV (C : Addr) (n m : Nat) (sp : Sp) (gV : List V → List V → List V) (E : XS) (t tk : TA) : TE := fun σ H Q => t σ H fun vs H1 => tk σ H1 fun zs H2 => vs.length = n ∧ zs.length = m ∧
  ∀ x dx, H2 x = none → H2 dx = none → dx ≠ x → sp (gV (.ref x :: vs) zs) (upd (upd H2 dx (.own x)) x (.ins C dx [])) (fun v H3 => v = .non ∧ Q (.ref x) H3) (fun cls d H => E cls d σ H)
theorem run_V {pins : List (Addr × Obj)} {σ : L2.St} {H : Hp} {s : Shared} {Q : VK} {us ws : List Value} {vs zs : List V} (F : FnOk X.prog X.w X.K X.mg X.base CX k f fd ps sp) (hr : Room k X.A) (hb : KBn X.K fd ps n ks g gV) (hx : PassesS CX X E)
    (I : Inv X pins σ H s) (r : Vals vs us) (rz : Vals zs ws) (l1 : vs.length = n) (l2 : zs.length = ks.length) (h : sp (gV vs zs) H Q (fun cls d H => E cls d σ H)) : wpAny (model X.prog X.w) X.A (call (.ref f) us (ks.zip ws)) (EP X pins σ Q) X.xe s := by
  have to := hb.to s us ws I.kIn (r.length ▸ l1) (rz.length ▸ l2)
  refine wpAny_call (codeAny_mono (F.run X.A X.stack s H ⟨us, ks.zip ws⟩ (g us ws) (gV vs zs) Q _ hr I.env0 to (hb.rel r rz) h) fun res s' hq => ?_)
  rcases res with er | fl
  · exact hx σ pins H s er s' I hq
  · cases fl with
    | ret u => exact I.after hq
    | _ => exact False.elim hq
theorem run_mkV {pins : List (Addr × Obj)} {σ : L2.St} {H : Hp} {s : Shared} {Q : VK} {us ws : List Value} {vs zs : List V} (M : Mk X.K C f) (F : FnOk X.prog X.w X.K X.mg X.base CX k f fd ps sp) (hr : Room (k + 1) X.A) (hb : KBn X.K fd ps (n + 1) ks g gV) (hx : PassesS CX X E)
    (I : Inv X pins σ H s) (r : Vals vs us) (rz : Vals zs ws) (l1 : vs.length = n) (l2 : zs.length = ks.length)
    (h : ∀ x dx, H x = none → H dx = none → dx ≠ x → sp (gV (.ref x :: vs) zs) (upd (upd H dx (.own x)) x (.ins C dx [])) (fun v H2 => v = .non ∧ Q (.ref x) H2) (fun cls d H => E cls d σ H)) :
    wpAny (model X.prog X.w) X.A (call (.ref C) us (ks.zip ws)) (EP X pins σ Q) X.xe s := by
  have I2 := Inv.made (C := C) I
  have rx : Vals (V.ref (s.heap.objs.size + 1) :: vs) (Value.ref (s.heap.objs.size + 1) :: us) := .cons rfl r
  have hq := h _ _ (I.hok.fresh (Nat.le_succ _)) (I.hok.fresh (Nat.le_refl _)) (Nat.ne_of_lt (Nat.lt_succ_self _))
  have to := hb.to _ (Value.ref (s.heap.objs.size + 1) :: us) ws I2.kIn (by rw [← rx.length, List.length_cons, l1]) (by rw [← rz.length, l2])
  refine wpAny_call (make_map (f := f) I.kIn M.makes M.init (beq_iff_eq.mp M.fn) (codeAny_mono (F.run _ X.stack _ _ ⟨Value.ref (s.heap.objs.size + 1) :: us, ks.zip ws⟩ _ _ _ _ (hr.make C us (ks.zip ws)) (I2.env0.make C us (ks.zip ws)) to (hb.rel rx rz) hq) fun res s' hq' => ?_))
  rcases res with er | fl
  · exact hx σ pins _ _ er s' I2 hq'
  · cases fl with
    | ret u =>
      obtain ⟨v, H', I3, rv, ev, q3⟩ := I2.after hq'
      subst ev
      exact ⟨rv, V.ref (s.heap.objs.size + 1), H', I3, rfl, q3⟩
    | _ => exact False.elim hq'
theorem pe_callV (F : FnOk X.prog X.w X.K X.mg X.base CX k f fd ps sp) (hr : Room k X.A) (hg : Gl X x) (hm : X.mg x = some (.ref f)) (hk : PySem.W.keepIn X.K (.ref f) = true) (hb : KBn X.K fd ps n ks g gV) (hx : PassesS CX X E)
    (ha : PA X (e :: es) t) (hkw : PK X kws tk) (hall : (backToKw pos (keywordEach kws X.env)).all (·.1.isSome) = true := by rfl) (hks : (backToKw pos (keywordEach kws X.env)).filterMap (·.1) = ks := by rfl)
    (hdb : (x == ("__debug__" : Str)) = false := by decide) (he : starEach (e :: es) X.env = (false, eval e X.env) :: starEach es X.env := by rfl)
    (hpl : ((backTo pos (starEach (e :: es) X.env)).any (·.1) || (backToKw pos (keywordEach kws X.env)).any (·.1.isNone)) = false := by rfl) : PE X (.Call (.Name x p) (e :: es) kws pos) (tCallV n ks.length sp gV E t tk) :=
  ⟨fun pins s σ H Q I h => wpAny_Call_Name_kw (ld_glob I hg hm (PySem.W.callWith_KW (h₀ := X.base) I.ok.mod.kin hk hall (thn (ha.run pos pins s σ H _ I h) fun us s1 ⟨vs, H1, I1, r, q⟩ =>
    thn (hkw.run pos pins s1 σ H1 _ I1 q) fun ws s2 ⟨zs, H2, I2, rz, l1, l2, q2⟩ => ⟨I2.kIn, by rw [hks]; exact run_V F hr hb hx I2 r rz l1 l2 q2⟩) hpl he) hdb)⟩
theorem pe_makeV (M : Mk X.K C f) (F : FnOk X.prog X.w X.K X.mg X.base CX k f fd ps sp) (hr : Room (k + 1) X.A) (hg : Gl X x) (hm : X.mg x = some (.ref C)) (hb : KBn X.K fd ps (n + 1) ks g gV) (hx : PassesS CX X E)
    (ha : PA X (e :: es) t) (hkw : PK X kws tk) (hall : (backToKw pos (keywordEach kws X.env)).all (·.1.isSome) = true := by rfl) (hks : (backToKw pos (keywordEach kws X.env)).filterMap (·.1) = ks := by rfl)
    (hdb : (x == ("__debug__" : Str)) = false := by decide) (he : starEach (e :: es) X.env = (false, eval e X.env) :: starEach es X.env := by rfl)
    (hpl : ((backTo pos (starEach (e :: es) X.env)).any (·.1) || (backToKw pos (keywordEach kws X.env)).any (·.1.isNone)) = false := by rfl) : PE X (.Call (.Name x p) (e :: es) kws pos) (tMakeV C n ks.length sp gV E t tk) :=
  ⟨fun pins s σ H Q I h => wpAny_Call_Name_kw (ld_glob I hg hm (PySem.W.callWith_KW (h₀ := X.base) I.ok.mod.kin M.kp hall (thn (ha.run pos pins s σ H _ I h) fun us s1 ⟨vs, H1, I1, r, q⟩ =>
    thn (hkw.run pos pins s1 σ H1 _ I1 q) fun ws s2 ⟨zs, H2, I2, rz, l1, l2, q2⟩ => ⟨I2.kIn, by rw [hks]; exact run_mkV M F hr hb hx I2 r rz l1 l2 q2⟩) hpl he) hdb)⟩
/-- o.m(.., k = v, ..) -/
def tMethN (C : Addr) (m : Str) (n nk : Nat) (sp : Sp) (gV : List V → List V → List V) (E : XS) (ta : TE) (t tk : TA) : TE := fun σ H Q => ta σ H fun x H1 => ∃ a dx fs, x = .ref a ∧ H1 a = some (.ins C dx fs) ∧ fs.lookup m = none ∧
  t σ H1 fun vs H2 => tk σ H2 fun zs H3 => vs.length = n ∧ zs.length = nk ∧ sp (gV (.ref a :: vs) zs) H3 Q (fun cls d H => E cls d σ H)
theorem pe_methN {pl : Sem Bool} (he : PE X o ta) (c : Cls X.K C) (hm : Meth X.K C m f) (F : FnOk X.prog X.w X.K X.mg X.base CX k f fd ps sp) (hr : Room k X.A) (hb : KBn X.K fd ps (n + 1) ks g gV) (hx : PassesS CX X E) (ha : PA X (e :: es) t) (hkw : PK X kws tk)
    (hall : (backToKw pos (keywordEach kws X.env)).all (·.1.isSome) = true := by rfl) (hks : (backToKw pos (keywordEach kws X.env)).filterMap (·.1) = ks := by rfl)
    (hst : starEach (e :: es) X.env = (false, eval e X.env) :: starEach es X.env := by rfl)
    (hpl : ((backTo pos (starEach (e :: es) X.env)).any (·.1) || (backToKw pos (keywordEach kws X.env)).any (·.1.isNone)) = false := by rfl)
    (ht : eval (.Call (.Attribute o m apos) (e :: es) kws pos) X.env = (do
      let ov ← eval o X.env
      standAt apos.atName
      let (f, first) ← holding [ov] (getMethod ov m pl)
      callWith pos f first (backTo pos (starEach (e :: es) X.env)) (backToKw pos (keywordEach kws X.env))) := by rfl) :
    PE X (.Call (.Attribute o m apos) (e :: es) kws pos) (tMethN C m n ks.length sp gV E ta t tk) := by
  refine ⟨fun pins s σ H Q I h => ?_⟩
  refine PySem.W.methodCall_KW (pl := pl) (thn (he.run pins s σ H _ I h) fun u s1 ⟨x, H1, I1, rx, a, dx, fs, ex, ea, l, q⟩ => ?_) ht
  subst ex
  obtain rfl : u = Value.ref a := rx
  refine getmeth_ok I1 ea c hm l ?_
  refine PySem.W.callWith_KW (first := [.ref a]) (h₀ := X.base) I.ok.mod.kin hm.kp hall (thn (ha.run pos pins s1 σ H1 _ I1 q) fun us s2 ⟨vs, H2, I2, r, q2⟩ => ?_) hpl hst
  refine thn (hkw.run pos pins s2 σ H2 _ I2 q2) fun ws s3 ⟨zs, H3, I3, rz, l1, l2, q3⟩ => ⟨I3.kIn, ?_⟩
  rw [hks]
  exact run_V (us := .ref a :: us) (vs := .ref a :: vs) F hr hb hx I3 (.cons rfl r) rz (congrArg Nat.succ l1) l2 q3
theorem pe_methN0 {pl : Sem Bool} (he : PE X o ta) (c : Cls X.K C) (hm : Meth X.K C m f) (F : FnOk X.prog X.w X.K X.mg X.base CX k f fd ps sp) (hr : Room k X.A) (hb : KBn X.K fd ps 1 ks g gV) (hx : PassesS CX X E) (hkw : PK X kws tk)
    (hall : (backToKw pos (keywordEach kws X.env)).all (·.1.isSome) = true := by rfl) (hks : (backToKw pos (keywordEach kws X.env)).filterMap (·.1) = ks := by rfl)
    (hpl : ((backTo pos (starEach [] X.env)).any (·.1) || (backToKw pos (keywordEach kws X.env)).any (·.1.isNone)) = false := by rfl)
    (ht : eval (.Call (.Attribute o m apos) [] kws pos) X.env = (do
      let ov ← eval o X.env
      standAt apos.atName
      let (f, first) ← holding [ov] (getMethod ov m pl)
      callWith pos f first (backTo pos (starEach [] X.env)) (backToKw pos (keywordEach kws X.env))) := by rfl) :
    PE X (.Call (.Attribute o m apos) [] kws pos) (tMethN C m 0 ks.length sp gV E ta tNil tk) := by
  refine ⟨fun pins s σ H Q I h => ?_⟩
  refine PySem.W.methodCall_KW (pl := pl) (thn (he.run pins s σ H _ I h) fun u s1 ⟨x, H1, I1, rx, a, dx, fs, ex, ea, l, q⟩ => ?_) ht
  subst ex
  obtain rfl : u = Value.ref a := rx
  refine getmeth_ok I1 ea c hm l ?_
  refine PySem.W.callWith_KW0 (first := [.ref a]) (h₀ := X.base) I.ok.mod.kin hm.kp hall ?_ hpl
  refine thn (hkw.run pos pins s1 σ H1 _ I1 q) fun ws s3 ⟨zs, H3, I3, rz, l1, l2, q3⟩ => ⟨I3.kIn, ?_⟩
  rw [hks]
  exact run_V (us := [.ref a]) (vs := [.ref a]) F hr hb hx I3 (.cons rfl .nil) rz rfl l2 q3
end

/-! ### keywords on data -/
def PKD (X : Cx) (Z : Zx) (E : XS) (kws : List Keyword) (d : DA) : Prop := PK X kws (tAr X.K Z E d)
theorem pk_weak {X : Cx} {kws : List Keyword} {t t' : TA} (h : PK X kws t) (k : ∀ σ H Q, t' σ H Q → t σ H Q) : PK X kws t' := ⟨fun pos pins s σ H Q I q => h.run pos pins s σ H Q I (k σ H Q q)⟩
section
variable {X : Cx} {Z : Zx} {E : XS} {e o : Expr} {es : List Expr} {kws : List Keyword} {da db dd : DE} {ds dk : DA} {pos apos p kpos : Pos} {CX' : CXT} {k n : Nat} {f C : Addr} {fd : FuncData} {ps ks : List Str} {dvs : List V} {dws : List W} {c : Ct} {x m : Str} {nm : Option Str} {pl : List Src} {g : List Value → List Value → List Value}
theorem pkd_nil : PKD X Z E [] aNil := pk_weak pk_nil fun σ H Q q => by
  obtain ⟨H0, F, G, pv, st, k, kx, wd, ss, hd, hk, hx⟩ := q
  exact hk _ _ _ _ _ _ (Ex.refl _) wd ss .nil hd
end

/-! ### the calls on data -/
def goCall (c : Ct) (b : Bool) (fin : List R) (st : S) (k : T → S → Prop) (x : KX) : Prop := b = true ∧ match argT st fin with
  | some ts => c ts (fun t ts' => k t (setA st fin ts')) (fun e ts' => x e (setA st fin ts'))
  | none => False
def okN (n m : Nat) (rs zs fin : List R) : Bool := (rs.length == n) && ((zs.length == m) && onePk fin)
/-- f(.., k = v, ..) -/
def dCallU (c : Ct) (pl : List Src) (dws : List W) (n m : Nat) (a ak : DA) : DW := fun st k x => a st (fun rs st1 => ak st1 (fun zs st2 =>
  goCall c (okN n m rs zs (pick pl rs (dws.map .w) zs)) (pick pl rs (dws.map .w) zs) st2 k x) x) x
/-- o.m(.., k = v, ..) -/
def dMethU (c : Ct) (cid : Nat) (pl : List Src) (dws : List W) (n m : Nat) (d : DE) (a ak : DA) : DW := fun st k x => d st (fun r st0 => isIns cid st0 r ∧ a st0 (fun rs st1 => ak st1 (fun zs st2 =>
  goCall c (okN n m rs zs (pick (shp pl) (r :: rs) (dws.map .w) zs)) (pick (shp pl) (r :: rs) (dws.map .w) zs) st2 k x) x) x) x
def okM (n m : Nat) (rs zs fin : List R) : Bool := (rs.length == n) && ((zs.length == m) && noPk fin)
/-- C(.., k = v, ..) -/
def dMakeU (c : Ct) (cid : Nat) (pl : List Src) (dws : List W) (n m : Nat) (a ak : DA) : DW := fun st k x => a st (fun rs st1 => ak st1 (fun zs st2 =>
  okM n m rs zs (pick pl rs (dws.map .w) zs) = true ∧ match argT st2 (pick pl rs (dws.map .w) zs) with
  | some ts => c (.ins cid [] :: ts) (fun t ts' => match t, ts' with
    | .fz .non, me :: _ => k me st2
    | _, _ => False) (fun e _ => x e st2)
  | none => False) x) x
theorem okN_of {n m : Nat} {rs zs fin : List R} (h : okN n m rs zs fin = true) : rs.length = n ∧ zs.length = m ∧ onePk fin = true := by
  obtain ⟨h1, h2⟩ := Bool.and_eq_true_iff.mp h
  obtain ⟨h2, h3⟩ := Bool.and_eq_true_iff.mp h2
  exact ⟨eq_of_beq h1, eq_of_beq h2, h3⟩
theorem okM_of {n m : Nat} {rs zs fin : List R} (h : okM n m rs zs fin = true) : rs.length = n ∧ zs.length = m ∧ noPk fin = true := by
  obtain ⟨h1, h2⟩ := Bool.and_eq_true_iff.mp h
  obtain ⟨h2, h3⟩ := Bool.and_eq_true_iff.mp h2
  exact ⟨eq_of_beq h1, eq_of_beq h2, h3⟩
section
variable {X : Cx} {Z : Zx} {E : XS} {e o : Expr} {es : List Expr} {kws : List Keyword} {da db dd : DE} {ds dk : DA} {pos apos p kpos : Pos} {CX' : CXT} {k n : Nat} {f C : Addr} {fd : FuncData} {ps ks : List Str} {dvs : List V} {dws : List W} {c : Ct} {x m : Str} {nm : Option Str} {pl : List Src} {g : List Value → List Value → List Value}
theorem go_ok {K : PySem.W.Frag} {σ : L2.St} {H0 H F : Hp} {G : Fp} {pv : List V} {st : S} {vs : List V} {fin : List R} {b : Bool} {k : T → S → Prop} {kx : KX} {Q : VK} (wd : Wd H0 F G H) (ss : Sts K Z H0 pv σ st G) (rr : RepRs K Z H0 σ vs fin)
    (hb : onePk fin = true) (h : goCall c b fin st k kx) (hk : AccW K Z F pv σ H0 k Q) (hx : AccXe K Z E F pv σ H0 kx) : spOf K Z c vs H Q (fun cls d H => E cls d σ H) := by
  obtain ⟨_, h⟩ := h
  cases q : argT st fin with
  | none => rw [q] at h; exact h.elim
  | some ts =>
    rw [q] at h
    have := call_ok (dvs := []) (dws := []) (k := k) (kx := kx) (c := c) wd ss rr (fun _ => .nil) hb q (by rw [List.map_nil, List.append_nil]; exact h) hk hx
    rwa [List.append_nil] at this
theorem callU_step {σ : L2.St} {H : Hp} {Q : VK} {nk : Nat} (hdw : ∀ H0, Reps X.K Z H0 dvs dws) (q : tW X.K Z E (dCallU c pl dws n nk ds dk) σ H Q) :
    tCallV n nk (spOf X.K Z c) (fun vs zs => pick pl vs dvs zs) E (tAr X.K Z E ds) (tAr X.K Z E dk) σ H Q := by
  obtain ⟨H0, F, G, pv, st, k, kx, wd, ss, hd, hk, hx⟩ := q
  refine tA_seq wd ss hx hd fun H1 G1 H1' st1 vs rs e1 wd1 ss1 rr k1 => ?_
  refine tA_seq wd1 ss1 (hx.up e1) k1 fun H2 G2 H2' st2 zs qs e2 wd2 ss2 rz k2 => ?_
  obtain ⟨l1, l2, l3⟩ := okN_of k2.1
  refine ⟨rr.length.trans l1, rz.length.trans l2, ?_⟩
  exact go_ok wd2 ss2 (pick_rr (rr.mono e2) (.ofW (hdw _)) rz pl) l3 k2 (fun _ _ _ _ _ _ _ e' => hk _ _ _ _ _ _ _ ((e1.trans e2).trans e')) (hx.up (e1.trans e2))
theorem pv_callU {nk : Nat} (F : FnOk X.prog X.w X.K X.mg X.base CX' k f fd ps (spOf X.K Z c)) (hr : Room k X.A) (hg : Gl X x) (hm : X.mg x = some (.ref f)) (hk : PySem.W.keepIn X.K (.ref f) = true) (hb : KBn X.K fd ps n ks g (fun vs zs => pick pl vs dvs zs)) (hdw : ∀ H0, Reps X.K Z H0 dvs dws) (hx : PassesS CX' X E)
    (ha : PAD X Z E (e :: es) ds) (hkw : PKD X Z E kws dk) (hall : (backToKw pos (keywordEach kws X.env)).all (·.1.isSome) = true := by rfl) (hks : (backToKw pos (keywordEach kws X.env)).filterMap (·.1) = ks := by rfl)
    (hdb : (x == ("__debug__" : Str)) = false := by decide) (he : starEach (e :: es) X.env = (false, eval e X.env) :: starEach es X.env := by rfl)
    (hpl : ((backTo pos (starEach (e :: es) X.env)).any (·.1) || (backToKw pos (keywordEach kws X.env)).any (·.1.isNone)) = false := by rfl) (hnk : ks.length = nk := by rfl) :
    PVD X Z E (.Call (.Name x p) (e :: es) kws pos) (dCallU c pl dws n nk ds dk) := by
  subst hnk
  exact pe_weak (pe_callV F hr hg hm hk hb hx ha hkw hall hks hdb he hpl) fun _ _ _ q => callU_step hdw q
theorem methU_step {cid nk : Nat} {σ : L2.St} {H : Hp} {Q : VK} (hnf : m ∉ fldN cid) (hdw : ∀ H0, Reps X.K Z H0 dvs dws) (q : tW X.K Z E (dMethU c cid pl dws n nk dd ds dk) σ H Q) :
    tMethN (Z.cls cid) m n nk (spOf X.K Z c) (fun vs zs => pick (shp pl) vs dvs zs) E (tE X.K Z E dd) (tAr X.K Z E ds) (tAr X.K Z E dk) σ H Q := by
  obtain ⟨H0, F, G, pv, st, k, kx, wd, ss, hd, hk, hx⟩ := q
  refine tE_seq wd ss hx hd fun H1 G1 H1' st1 v r e1 wd1 ss1 rr k1 => ?_
  obtain ⟨hi, k1⟩ := k1
  obtain ⟨a, dx, fs, n', ev, ha, hn⟩ := isIns_at wd1 ss1 rr hi
  subst ev
  refine ⟨a, dx, fs, rfl, ha, no_field hn hnf, ?_⟩
  refine tA_seq wd1 ss1 (hx.up e1) k1 fun H2 G2 H2' st2 vs rs e2 wd2 ss2 rrs k2 => ?_
  refine tA_seq wd2 ss2 (hx.up (e1.trans e2)) k2 fun H3 G3 H3' st3 zs qs e3 wd3 ss3 rz k3 => ?_
  obtain ⟨l1, l2, l3⟩ := okN_of k3.1
  refine ⟨rrs.length.trans l1, rz.length.trans l2, ?_⟩
  exact go_ok wd3 ss3 (pick_rr (.cons (rr.mono (e2.trans e3)) (rrs.mono e3)) (.ofW (hdw _)) rz (shp pl)) l3 k3 (fun _ _ _ _ _ _ _ e' => hk _ _ _ _ _ _ _ ((e1.trans (e2.trans e3)).trans e')) (hx.up (e1.trans (e2.trans e3)))
theorem pv_methU {cid : Nat} {nk : Nat} {pb : Sem Bool} (he : PD X Z E o dd) (hC : Z.cls cid = C) (cl : Cls X.K C) (hm : Meth X.K C m f) (hnf : m ∉ fldN cid) (F : FnOk X.prog X.w X.K X.mg X.base CX' k f fd ps (spOf X.K Z c)) (hr : Room k X.A) (hb : KBn X.K fd ps (n + 1) ks g (fun vs zs => pick (shp pl) vs dvs zs)) (hdw : ∀ H0, Reps X.K Z H0 dvs dws) (hx : PassesS CX' X E)
    (ha : PAD X Z E (e :: es) ds) (hkw : PKD X Z E kws dk) (hall : (backToKw pos (keywordEach kws X.env)).all (·.1.isSome) = true := by rfl) (hks : (backToKw pos (keywordEach kws X.env)).filterMap (·.1) = ks := by rfl)
    (hst : starEach (e :: es) X.env = (false, eval e X.env) :: starEach es X.env := by rfl)
    (hpl : ((backTo pos (starEach (e :: es) X.env)).any (·.1) || (backToKw pos (keywordEach kws X.env)).any (·.1.isNone)) = false := by rfl)
    (ht : eval (.Call (.Attribute o m apos) (e :: es) kws pos) X.env = (do
      let ov ← eval o X.env
      standAt apos.atName
      let (f, first) ← holding [ov] (getMethod ov m pb)
      callWith pos f first (backTo pos (starEach (e :: es) X.env)) (backToKw pos (keywordEach kws X.env))) := by rfl) (hnk : ks.length = nk := by rfl) :
    PVD X Z E (.Call (.Attribute o m apos) (e :: es) kws pos) (dMethU c cid pl dws n nk dd ds dk) := by
  subst hnk
  subst hC
  exact pe_weak (pe_methN (pl := pb) he cl hm F hr hb hx ha hkw hall hks hst hpl ht) fun _ _ _ q => methU_step hnf hdw q
theorem pv_methU0 {cid : Nat} {nk : Nat} {pb : Sem Bool} (he : PD X Z E o dd) (hC : Z.cls cid = C) (cl : Cls X.K C) (hm : Meth X.K C m f) (hnf : m ∉ fldN cid) (F : FnOk X.prog X.w X.K X.mg X.base CX' k f fd ps (spOf X.K Z c)) (hr : Room k X.A) (hb : KBn X.K fd ps 1 ks g (fun vs zs => pick (shp pl) vs dvs zs)) (hdw : ∀ H0, Reps X.K Z H0 dvs dws) (hx : PassesS CX' X E)
    (hkw : PKD X Z E kws dk) (hall : (backToKw pos (keywordEach kws X.env)).all (·.1.isSome) = true := by rfl) (hks : (backToKw pos (keywordEach kws X.env)).filterMap (·.1) = ks := by rfl)
    (hpl : ((backTo pos (starEach [] X.env)).any (·.1) || (backToKw pos (keywordEach kws X.env)).any (·.1.isNone)) = false := by rfl)
    (ht : eval (.Call (.Attribute o m apos) [] kws pos) X.env = (do
      let ov ← eval o X.env
      standAt apos.atName
      let (f, first) ← holding [ov] (getMethod ov m pb)
      callWith pos f first (backTo pos (starEach [] X.env)) (backToKw pos (keywordEach kws X.env))) := by rfl) (hnk : ks.length = nk := by rfl) :
    PVD X Z E (.Call (.Attribute o m apos) [] kws pos) (dMethU c cid pl dws 0 nk dd aNil dk) := by
  subst hnk
  subst hC
  refine pe_weak (pe_methN0 (pl := pb) he cl hm F hr hb hx hkw hall hks hpl ht) fun σ H Q q => ?_
  obtain ⟨H0, F, G, pv, st, k, kx, wd, ss, hd, hk, hx⟩ := q
  refine tE_seq wd ss hx hd fun H1 G1 H1' st1 v r e1 wd1 ss1 rr k1 => ?_
  obtain ⟨hi, k1⟩ := k1
  obtain ⟨a, dx, fs, n', ev, ha, hn⟩ := isIns_at wd1 ss1 rr hi
  subst ev
  refine ⟨a, dx, fs, rfl, ha, no_field hn hnf, ?_⟩
  refine tA_seq wd1 ss1 (hx.up e1) k1 fun H3 G3 H3' st3 zs qs e3 wd3 ss3 rz k3 => ?_
  obtain ⟨l1, l2, l3⟩ := okN_of k3.1
  refine ⟨rfl, rz.length.trans l2, ?_⟩
  exact go_ok wd3 ss3 (pick_rr (.cons (rr.mono e3) .nil) (.ofW (hdw _)) rz (shp pl)) l3 k3 (fun _ _ _ _ _ _ _ e' => hk _ _ _ _ _ _ _ ((e1.trans e3).trans e')) (hx.up (e1.trans e3))
theorem makeU_go {cid : Nat} (hz : Z.has cid = true) {K : PySem.W.Frag} {σ : L2.St} {H0 H F : Hp} {G : Fp} {pv : List V} {st : S} {vs dvs zs : List V} {fin : List R} {k : T → S → Prop} {kx : KX} {Q : VK} (wd : Wd H0 F G H) (ss : Sts K Z H0 pv σ st G) (rr : RepRs K Z H0 σ (pick pl vs dvs zs) fin)
    (hb : noPk fin = true) (h : match argT st fin with
      | some ts => c (.ins cid [] :: ts) (fun t ts' => match t, ts' with
        | .fz .non, me :: _ => k me st
        | _, _ => False) (fun e _ => kx e st)
      | none => False) (hk : AccW K Z F pv σ H0 k Q) (hx : AccXe K Z E F pv σ H0 kx) :
    ∀ x dx, H x = none → H dx = none → dx ≠ x → spOf K Z c (pick (shp pl) (.ref x :: vs) dvs zs) (upd (upd H dx (.own x)) x (.ins (Z.cls cid) dx [])) (fun v H2 => v = .non ∧ Q (.ref x) H2) (fun cls d H => E cls d σ H) := by
  cases q : argT st fin with
  | none => rw [q] at h; exact h.elim
  | some ts =>
    rw [q] at h
    intro x dx h1 h2 h3
    have := make_core (dvs := []) (dws := []) (k := k) (kx := kx) (c := c) hz wd ss rr (fun _ => .nil) hb q (by rw [List.map_nil, List.append_nil]; exact h) hk hx x dx h1 h2 h3
    rw [List.append_nil] at this
    rw [pick_sh]
    exact this
theorem pv_makeU {cid : Nat} {nk : Nat} (hz : Z.has cid = true) (M : Mk X.K C f) (hC : Z.cls cid = C) (F : FnOk X.prog X.w X.K X.mg X.base CX' k f fd ps (spOf X.K Z c)) (hr : Room (k + 1) X.A) (hg : Gl X x) (hm : X.mg x = some (.ref C)) (hb : KBn X.K fd ps (n + 1) ks g (fun vs zs => pick (shp pl) vs dvs zs)) (hdw : ∀ H0, Reps X.K Z H0 dvs dws) (hx : PassesS CX' X E)
    (ha : PAD X Z E (e :: es) ds) (hkw : PKD X Z E kws dk) (hall : (backToKw pos (keywordEach kws X.env)).all (·.1.isSome) = true := by rfl) (hks : (backToKw pos (keywordEach kws X.env)).filterMap (·.1) = ks := by rfl)
    (hdb : (x == ("__debug__" : Str)) = false := by decide) (he : starEach (e :: es) X.env = (false, eval e X.env) :: starEach es X.env := by rfl)
    (hpl : ((backTo pos (starEach (e :: es) X.env)).any (·.1) || (backToKw pos (keywordEach kws X.env)).any (·.1.isNone)) = false := by rfl) (hnk : ks.length = nk := by rfl) :
    PVD X Z E (.Call (.Name x p) (e :: es) kws pos) (dMakeU c cid pl dws n nk ds dk) := by
  subst hnk
  subst hC
  refine pe_weak (pe_makeV M F hr hg hm hb hx ha hkw hall hks hdb he hpl) fun σ H Q q => ?_
  obtain ⟨H0, F, G, pv, st, k, kx, wd, ss, hd, hk, hx⟩ := q
  refine tA_seq wd ss hx hd fun H1 G1 H1' st1 vs rs e1 wd1 ss1 rr k1 => ?_
  refine tA_seq wd1 ss1 (hx.up e1) k1 fun H2 G2 H2' st2 zs qs e2 wd2 ss2 rz k2 => ?_
  obtain ⟨l1, l2, l3⟩ := okM_of k2.1
  refine ⟨rr.length.trans l1, rz.length.trans l2, ?_⟩
  exact makeU_go hz wd2 ss2 (pick_rr (rr.mono e2) (.ofW (hdw _)) rz pl) l3 k2.2 (fun _ _ _ _ _ _ _ e' => hk _ _ _ _ _ _ _ ((e1.trans e2).trans e')) (hx.up (e1.trans e2))
end

/-! ### fields -/
/-- e.f of an instance of the class cid, its j-th field -/
def dFld (cid j : Nat) (d : DE) : DE := fun st k x => d st (fun r st1 => match r with
  | .w (.ins c ws) => c = cid ∧ ∃ w, ws[j]? = some w ∧ k (.w w) st1
  | .w _ => False
  | .pk i => match getT st1 i with
    | some (.ins c ts) => c = cid ∧ ∃ w, ts[j]? = some (.fz w) ∧ k (.w w) st1
    | _ => False) x
def putT (ts : List T) (j : Nat) (t : T) : List T := if j < ts.length then ts.set j t else ts ++ [t]
/-- x.f = value, x an own name -/
def dFSto (i cid j : Nat) (d : DW) : DS := fun D st => d st (fun t st1 => match getT st1 i with
  | some (.ins c ts) => c = cid ∧ j ≤ ts.length ∧ D.nx (setT st1 i (.ins c (putT ts j t)))
  | _ => False) D.ex
theorem lookup_at {f : Str} : ∀ {fs : List (Str × V)} {j : Nat} {v : V}, (fs.map (·.1)).Nodup → (fs.map (·.1))[j]? = some f → (fs.map (·.2))[j]? = some v → fs.lookup f = some v
  | [], j, v, _, h, _ => by simp at h
  | (n, u) :: fs, 0, v, _, h1, h2 => by
    simp at h1 h2; subst h1; subst h2
    simp [List.lookup_cons]
  | (n, u) :: fs, j + 1, v, nd, h1, h2 => by
    rw [List.map_cons] at nd h1 h2
    obtain ⟨n1, n2⟩ := List.nodup_cons.mp nd
    have h1' : (fs.map (·.1))[j]? = some f := by simpa using h1
    have ne : (f == n) = false := by
      refine beq_false_of_ne fun e => n1 ?_
      rw [← e]
      exact List.mem_of_getElem? h1'
    rw [List.lookup_cons, ne]
    exact lookup_at n2 h1' (by simpa using h2)
theorem fld_nd : ∀ c : Nat, (fldN c).Nodup := by
  intro c
  unfold fldN
  split <;> decide
theorem fld_short : ∀ c : Nat, (fldN c).length ≤ 3 := by
  intro c
  unfold fldN
  split <;> decide
theorem RepTs.get {K : PySem.W.Frag} {Z : Zx} {H : Hp} : ∀ {vs ts G} {i : Nat} {t}, RepTs K Z H vs ts G → ts[i]? = some t → ∃ v Gt, vs[i]? = some v ∧ RepT K Z H v t Gt
  | _, _, _, i, _, .nil, e => by simp at e
  | _, _, _, 0, _, .cons h r, e => by simp at e; subst e; exact ⟨_, _, rfl, h⟩
  | _, _, _, i + 1, w, .cons h r, e => by
    obtain ⟨v, Gt, h1, h2⟩ := RepTs.get (i := i) (t := w) r (by simpa using e)
    exact ⟨v, Gt, by simpa using h1, h2⟩
section
variable {X : Cx} {Z : Zx} {E : XS} {e o : Expr} {dd : DE} {dw : DW} {pos pos' apos p : Pos} {C : Addr} {f x : Str} {cid j : Nat}
theorem pd_fld (he : PD X Z E e dd) (hC : Z.cls cid = C) (cl : Cls X.K C) (hn : NoAttr X.K C f) (hj : (fldN cid)[j]? = some f := by rfl) (hb : attributeBase e f X.env (eval e X.env) = eval e X.env := by rfl) : PD X Z E (.Attribute e f pos) (dFld cid j dd) := by
  subst hC
  refine pe_weak (pe_fld he hb) fun σ H Q q => ?_
  obtain ⟨H0, F, G, pv, st, k, kx, wd, ss, hd, hk, hx⟩ := q
  refine tE_seq wd ss hx hd fun H1 G1 H1' st1 v r e1 wd1 ss1 rr k1 => ?_
  cases rr with
  | w rv =>
    cases rv with
    | @ins a c dx fs ws _ hi hnm hr =>
      obtain ⟨rfl, w, h1, k1⟩ := k1
      obtain ⟨v, h2, h3⟩ := hr.get h1
      exact ⟨a, _, dx, fs, v, rfl, wd1.ex _ _ hi, cl, hn, lookup_at (by rw [hnm]; exact fld_nd c) (by rw [hnm]; exact hj) h2, hk _ _ _ _ _ _ e1 wd1 ss1 (.w h3) k1⟩
    | _ => exact k1.elim
  | pk hv =>
    rename_i i
    replace k1 : (match getT st1 i with | some (.ins c ts) => c = cid ∧ ∃ w, ts[j]? = some (.fz w) ∧ k (.w w) st1 | _ => False) := k1
    cases q : getT st1 i with
    | none => rw [q] at k1; exact k1.elim
    | some t =>
      rw [q] at k1
      cases t with
      | ins c ts =>
        obtain ⟨rfl, w, h1, k1⟩ := k1
        obtain ⟨Gx, A, B, g1, g2, _⟩ := ss1.own q hv
        cases g1 with
        | @ins a _ dx fs _ Gf _ n r =>
          obtain ⟨v, Gt, h2, h3⟩ := r.get h1
          cases h3 with
          | fz h3 =>
            have hi : H1' a = some (.ins (Z.cls c) dx fs) := wd1.ow (a, _) (by rw [g2]; simp)
            have hjl : j < ts.length := by
              by_cases z : j < ts.length
              · exact z
              · rw [List.getElem?_eq_none (by omega)] at h1; cases h1
            refine ⟨a, _, dx, fs, v, rfl, hi, cl, hn, lookup_at (by rw [n]; exact (fld_nd c).sublist (List.take_sublist _ _)) (by rw [n, List.getElem?_take_of_lt hjl]; exact hj) h2, hk _ _ _ _ _ _ e1 wd1 ss1 (.w h3) k1⟩
      | _ => exact k1.elim
end
end Y
namespace QE
open PySem PySem.SeqAt
open AutoSeq1 (wpAny_loadPart')
open MeetsSeq MeetsSeq2 MeetsSeq3 SeqRoads2
open GQ (FinOf call_here eqBool_refG)
section
variable {prog : Program} {w : World} {A : Around} {R : Result → Shared → Prop}
/-- at each turn the two lists are read anew: N items each; the i-th two are equal or not, as e says -/
def ListJ (prog : Program) (w : World) (A : Around) (E : Value → Shared → Prop) (l b : Addr) (N : Nat) (e : Nat → Bool) (I : Shared → Prop) : Prop :=
  ∀ i s, I s → ∃ (items items2 : Array Value) (n n2 : Nat), s.heap.get? l = some { cls := .type "list", data := .seq items n } ∧ s.heap.get? b = some { cls := .type "list", data := .seq items2 n2 } ∧ items.size = N ∧ items2.size = N ∧
    ((∀ j, j < i → e j = true) → ∀ (h1 : i < items.size) (h2 : i < items2.size), wpAny (model prog w) A.in1 (eqBool items[i] items2[i]) (fun r s' => r = e i ∧ I s') E s)
theorem all_of {N : Nat} {e : Nat → Bool} (h : ∀ j, j < N → e j = true) : (List.range N).all e = true := List.all_eq_true.mpr fun j hj => h j (List.mem_range.mp hj)
theorem all_no {N i : Nat} {e : Nat → Bool} (hi : i < N) (h : e i = false) : (List.range N).all e = false := by
  cases q : (List.range N).all e with
  | false => rfl
  | true => have := List.all_eq_true.mp q i (List.mem_range.mpr hi); rw [h] at this; cases this

theorem eq_loopJ (l b : Addr) (N : Nat) (e : Nat → Bool) (I : Shared → Prop) (hl : ListJ prog w A (fun e s' => R (.error e) s') l b N e I)
    (fin : ∀ s, I s → R (.ok (.ret (.bool ((List.range N).all e)))) s) (k : Nat) :
    ∀ i : Nat, N - i = k → i ≤ N → (∀ j, j < i → e j = true) → ∀ s, I s →
      wpAny (model prog w) A.in1 (Builtin.«list.__eq__.loop» ⟨[.ref l, .ref b, rawInt i, rawInt 2], []⟩) (FinOf prog w A R) (fun e s' => R (.error e) s') s := by
  induction k with
  | zero =>
    intro i hk hi hp s h
    obtain ⟨items, items2, n, n2, hl1, hb1, hs1, hs2, _⟩ := hl i _ h
    have hi' : i = N := by omega
    have hR := fin s h
    rw [all_of (hi' ▸ hp)] at hR
    obtain ⟨hp, g, d, tk, os⟩ := s
    wp_walk using wpAny_loadPart' hl1, wpAny_loadPart' hb1
    have hi1 : items[((i : Nat) : Int).toNat]? = none := by simp; omega
    have hi2 : items2[((i : Nat) : Int).toNat]? = none := by simp; omega
    rw [hi1, hi2]
    wp_walk using wpAny_loadPart' hl1, wpAny_loadPart' hb1
    show R (.ok (.ret (.bool (items.size == items2.size)))) _
    rw [hs1, hs2]
    simpa using hR
  | succ k ih =>
    intro i hk hi hp s h
    obtain ⟨items, items2, n, n2, hl1, hb1, hs1, hs2, turn⟩ := hl i _ h
    have hlt : i < items.size := by omega
    have hlt2 : i < items2.size := by omega
    have ht := turn hp hlt hlt2
    obtain ⟨hp0, g, d, tk, os⟩ := s
    wp_walk using wpAny_loadPart' hl1, wpAny_loadPart' hb1
    have hi1 : items[((i : Nat) : Int).toNat]? = some items[i] := by simp [hlt]
    have hi2 : items2[((i : Nat) : Int).toNat]? = some items2[i] := by simp [hlt2]
    have hc : ((i : Int) + 1) = ((i + 1 : Nat) : Int) := by omega
    rw [hi1, hi2]
    refine wpAny_bind (wpAny_mono ht (fun r s2 h2 => ?_) fun _ _ x => x)
    obtain ⟨hr, h2⟩ := h2
    cases hb' : e i with
    | true =>
      rw [hb'] at hr
      subst hr
      have hrec := ih (i + 1) (by omega) (by omega) (fun j hj => by
        rcases Nat.lt_or_ge j i with q | q
        · exact hp j q
        · rw [show j = i by omega]; exact hb') s2 h2
      obtain ⟨hp2, g2, d2, tk2, os2⟩ := s2
      wp_walk
      rw [hc]
      exact ⟨plainId_quiet plain_eq_loop _, codeAny_builtin entry_eq_loop (by
        rw [Around.under_plainId plain_eq_loop _]
        exact hrec)⟩
    | false =>
      rw [hb'] at hr
      subst hr
      obtain ⟨items', items2', n', n2', hl2, hb2, hs1', hs2', _⟩ := hl i _ h2
      have hR := fin s2 h2
      rw [all_no (by omega) hb'] at hR
      obtain ⟨hp2, g2, d2, tk2, os2⟩ := s2
      wp_walk using wpAny_loadPart' hl2, wpAny_loadPart' hb2
      have k1 : i < items'.size := by omega
      have k2 : i < items2'.size := by omega
      have hi1' : items'[((i : Nat) : Int).toNat]? = some items'[i] := by simp [k1]
      have hi2' : items2'[((i : Nat) : Int).toNat]? = some items2'[i] := by simp [k2]
      rw [hi1', hi2']
      wp_walk
      simpa using hR
theorem list_eqJ (l b : Addr) (N : Nat) (e : Nat → Bool) (I : Shared → Prop) (hl : ListJ prog w A (fun e s' => R (.error e) s') l b N e I)
    (fin : ∀ s, I s → R (.ok (.ret (.bool ((List.range N).all e)))) s) {s : Shared} (h : I s) :
    wpAny (model prog w) A.in1 (Builtin.«list.__eq__» ⟨[.ref l, .ref b], []⟩) (FinOf prog w A R) (fun e s' => R (.error e) s') s := by
  obtain ⟨items, items2, n, n2, hl1, hb1, hs1, hs2, _⟩ := hl 0 _ h
  have hrec := eq_loopJ (A := A) (R := R) l b N e I hl fin _ 0 rfl (Nat.zero_le _) (fun j hj => absurd hj (Nat.not_lt_zero j)) s h
  obtain ⟨hp, g, d, tk, os⟩ := s
  have f3 := AutoSeq1.sub_list_list
  have hne : ¬ (items.size != items2.size) = true := by simp [hs1, hs2]
  wp_walk using wpAny_loadPart' hl1, wpAny_loadPart' hb1
  exact ⟨plainId_quiet plain_eq_loop _, codeAny_builtin entry_eq_loop (by
    rw [Around.under_plainId plain_eq_loop _]
    exact hrec)⟩
theorem tuple_eqJ (l b : Addr) (items items2 : Array Value) (n n2 : Nat) (dd dd2 : Option Addr) (sl sl2 : Array (Option Value)) (e : Nat → Bool) (I : Shared → Prop)
    (turn : ∀ i (h1 : i < items.size) (h2 : i < items2.size) s, (∀ j, j < i → e j = true) → I s → wpAny (model prog w) A.in1 (eqBool items[i] items2[i]) (fun r s' => r = e i ∧ I s') (fun e s' => R (.error e) s') s)
    (fin : ∀ s, I s → R (.ok (.ret (.bool ((List.range (min items.size items2.size)).all e && items.size == items2.size)))) s) {s : Shared} (hl1 : s.heap.get? l = some { cls := .type "tuple", dict := dd, data := .seq items n, slots := sl }) (hb1 : s.heap.get? b = some { cls := .type "tuple", dict := dd2, data := .seq items2 n2, slots := sl2 }) (h : I s) :
    wpAny (model prog w) A.in1 (Builtin.«tuple.__eq__» ⟨[.ref l, .ref b], []⟩) (FinOf prog w A R) (fun e s' => R (.error e) s') s := by
  have f2 := AutoSeq1.sub_tuple_tuple
  have hZ : (items.toList.zip items2.toList).length = min items.size items2.size := by simp
  have h0 := h
  obtain ⟨hp, g, d, tk, os⟩ := s
  wp_walk using wpAny_loadPart' hl1, wpAny_loadPart' hb1, wpAny_forIn_list _ (fun rest b s' => b.1 = none ∧ ∃ i, rest = (items.toList.zip items2.toList).drop i ∧ i ≤ min items.size items2.size ∧ (∀ j, j < i → e j = true) ∧ I s') _
  case turn =>
    rintro ⟨y, x⟩ rest b s' ⟨hb', i, hz, hi, hpre, hI⟩
    have hlt : i < (items.toList.zip items2.toList).length := by
      rcases Nat.lt_or_ge i (items.toList.zip items2.toList).length with h' | h'
      · exact h'
      · rw [List.drop_of_length_le h'] at hz; cases hz
    have hm : i < min items.size items2.size := hZ ▸ hlt
    have h1 : i < items.size := Nat.lt_of_lt_of_le hm (Nat.min_le_left _ _)
    have h2 : i < items2.size := Nat.lt_of_lt_of_le hm (Nat.min_le_right _ _)
    rw [List.drop_eq_getElem_cons hlt] at hz
    injection hz with hyx hrest
    have hy : y = items[i] := by have := congrArg Prod.fst hyx; simpa using this
    have hx : x = items2[i] := by have := congrArg Prod.snd hyx; simpa using this
    subst hy hx
    refine wpAny_bind (wpAny_mono (turn i h1 h2 s' hpre hI) (fun r s2 q2 => ?_) fun _ _ x => x)
    obtain ⟨hr, q2⟩ := q2
    cases hy : e i with
    | true =>
      rw [hy] at hr
      subst hr
      wp_walk
      exact ⟨rfl, i + 1, hrest, hm, fun j hj => by
        rcases Nat.lt_or_ge j i with q | q
        · exact hpre j q
        · rw [show j = i by omega]; exact hy, q2⟩
    | false =>
      rw [hy] at hr
      subst hr
      have hR := fin s2 q2
      rw [all_no hm hy] at hR
      wp_walk
      simpa using hR
  case fin =>
    rintro ⟨b1, b2⟩ s' ⟨hb', i, hz, hi, hpre, hI⟩
    simp only at hb'
    subst hb'
    have hge : min items.size items2.size ≤ i := by
      rcases Nat.lt_or_ge i (items.toList.zip items2.toList).length with h' | h'
      · rw [List.drop_eq_getElem_cons h'] at hz; cases hz
      · exact hZ ▸ h'
    have hi' : i = min items.size items2.size := by omega
    have hR : R _ s' := fin s' hI
    rw [all_of (hi' ▸ hpre)] at hR
    wp_walk
    simpa [Builtin.Tuple.tupleCompareSizes, bne] using hR
  case h =>
    exact ⟨rfl, 0, rfl, Nat.zero_le _, fun j hj => absurd hj (Nat.not_lt_zero j), h0⟩

theorem ne_loopJ (l b : Addr) (N : Nat) (e : Nat → Bool) (I : Shared → Prop) (hl : ListJ prog w A (fun e s' => R (.error e) s') l b N e I)
    (fin : ∀ s, I s → R (.ok (.ret (.bool (!(List.range N).all e)))) s) (k : Nat) :
    ∀ i : Nat, N - i = k → i ≤ N → (∀ j, j < i → e j = true) → ∀ s, I s →
      wpAny (model prog w) A.in1 (Builtin.«list.__eq__.loop» ⟨[.ref l, .ref b, rawInt i, rawInt 3], []⟩) (FinOf prog w A R) (fun e s' => R (.error e) s') s := by
  induction k with
  | zero =>
    intro i hk hi hp s h
    obtain ⟨items, items2, n, n2, hl1, hb1, hs1, hs2, _⟩ := hl i _ h
    have hi' : i = N := by omega
    have hR := fin s h
    rw [all_of (hi' ▸ hp)] at hR
    obtain ⟨hp, g, d, tk, os⟩ := s
    wp_walk using wpAny_loadPart' hl1, wpAny_loadPart' hb1
    have hi1 : items[((i : Nat) : Int).toNat]? = none := by simp; omega
    have hi2 : items2[((i : Nat) : Int).toNat]? = none := by simp; omega
    rw [hi1, hi2]
    wp_walk using wpAny_loadPart' hl1, wpAny_loadPart' hb1
    show R (.ok (.ret (.bool (items.size != items2.size)))) _
    rw [hs1, hs2]
    simpa using hR
  | succ k ih =>
    intro i hk hi hp s h
    obtain ⟨items, items2, n, n2, hl1, hb1, hs1, hs2, turn⟩ := hl i _ h
    have hlt : i < items.size := by omega
    have hlt2 : i < items2.size := by omega
    have ht := turn hp hlt hlt2
    obtain ⟨hp0, g, d, tk, os⟩ := s
    wp_walk using wpAny_loadPart' hl1, wpAny_loadPart' hb1
    have hi1 : items[((i : Nat) : Int).toNat]? = some items[i] := by simp [hlt]
    have hi2 : items2[((i : Nat) : Int).toNat]? = some items2[i] := by simp [hlt2]
    have hc : ((i : Int) + 1) = ((i + 1 : Nat) : Int) := by omega
    rw [hi1, hi2]
    refine wpAny_bind (wpAny_mono ht (fun r s2 h2 => ?_) fun _ _ x => x)
    obtain ⟨hr, h2⟩ := h2
    cases hb' : e i with
    | true =>
      rw [hb'] at hr
      subst hr
      have hrec := ih (i + 1) (by omega) (by omega) (fun j hj => by
        rcases Nat.lt_or_ge j i with q | q
        · exact hp j q
        · rw [show j = i by omega]; exact hb') s2 h2
      obtain ⟨hp2, g2, d2, tk2, os2⟩ := s2
      wp_walk
      rw [hc]
      exact ⟨plainId_quiet plain_eq_loop _, codeAny_builtin entry_eq_loop (by
        rw [Around.under_plainId plain_eq_loop _]
        exact hrec)⟩
    | false =>
      rw [hb'] at hr
      subst hr
      obtain ⟨items', items2', n', n2', hl2, hb2, hs1', hs2', _⟩ := hl i _ h2
      have hR := fin s2 h2
      rw [all_no (by omega) hb'] at hR
      obtain ⟨hp2, g2, d2, tk2, os2⟩ := s2
      wp_walk using wpAny_loadPart' hl2, wpAny_loadPart' hb2
      have k1 : i < items'.size := by omega
      have k2 : i < items2'.size := by omega
      have hi1' : items'[((i : Nat) : Int).toNat]? = some items'[i] := by simp [k1]
      have hi2' : items2'[((i : Nat) : Int).toNat]? = some items2'[i] := by simp [k2]
      rw [hi1', hi2']
      wp_walk
      simpa using hR
theorem list_neJ (l b : Addr) (N : Nat) (e : Nat → Bool) (I : Shared → Prop) (hl : ListJ prog w A (fun e s' => R (.error e) s') l b N e I)
    (fin : ∀ s, I s → R (.ok (.ret (.bool (!(List.range N).all e)))) s) {s : Shared} (h : I s) :
    wpAny (model prog w) A.in1 (Builtin.«list.__ne__» ⟨[.ref l, .ref b], []⟩) (FinOf prog w A R) (fun e s' => R (.error e) s') s := by
  obtain ⟨items, items2, n, n2, hl1, hb1, hs1, hs2, _⟩ := hl 0 _ h
  have hrec := ne_loopJ (A := A) (R := R) l b N e I hl fin _ 0 rfl (Nat.zero_le _) (fun j hj => absurd hj (Nat.not_lt_zero j)) s h
  obtain ⟨hp, g, d, tk, os⟩ := s
  have f3 := AutoSeq1.sub_list_list
  have hne : ¬ (items.size != items2.size) = true := by simp [hs1, hs2]
  wp_walk using wpAny_loadPart' hl1, wpAny_loadPart' hb1
  exact ⟨plainId_quiet plain_eq_loop _, codeAny_builtin entry_eq_loop (by
    rw [Around.under_plainId plain_eq_loop _]
    exact hrec)⟩
theorem tuple_neJ (l b : Addr) (items items2 : Array Value) (n n2 : Nat) (dd dd2 : Option Addr) (sl sl2 : Array (Option Value)) (e : Nat → Bool) (I : Shared → Prop)
    (turn : ∀ i (h1 : i < items.size) (h2 : i < items2.size) s, (∀ j, j < i → e j = true) → I s → wpAny (model prog w) A.in1 (eqBool items[i] items2[i]) (fun r s' => r = e i ∧ I s') (fun e s' => R (.error e) s') s)
    (fin : ∀ s, I s → R (.ok (.ret (.bool (!((List.range (min items.size items2.size)).all e && items.size == items2.size))))) s) {s : Shared} (hl1 : s.heap.get? l = some { cls := .type "tuple", dict := dd, data := .seq items n, slots := sl }) (hb1 : s.heap.get? b = some { cls := .type "tuple", dict := dd2, data := .seq items2 n2, slots := sl2 }) (h : I s) :
    wpAny (model prog w) A.in1 (Builtin.«tuple.__ne__» ⟨[.ref l, .ref b], []⟩) (FinOf prog w A R) (fun e s' => R (.error e) s') s := by
  have f2 := AutoSeq1.sub_tuple_tuple
  have hZ : (items.toList.zip items2.toList).length = min items.size items2.size := by simp
  have h0 := h
  obtain ⟨hp, g, d, tk, os⟩ := s
  wp_walk using wpAny_loadPart' hl1, wpAny_loadPart' hb1, wpAny_forIn_list _ (fun rest b s' => b.1 = none ∧ ∃ i, rest = (items.toList.zip items2.toList).drop i ∧ i ≤ min items.size items2.size ∧ (∀ j, j < i → e j = true) ∧ I s') _
  case turn =>
    rintro ⟨y, x⟩ rest b s' ⟨hb', i, hz, hi, hpre, hI⟩
    have hlt : i < (items.toList.zip items2.toList).length := by
      rcases Nat.lt_or_ge i (items.toList.zip items2.toList).length with h' | h'
      · exact h'
      · rw [List.drop_of_length_le h'] at hz; cases hz
    have hm : i < min items.size items2.size := hZ ▸ hlt
    have h1 : i < items.size := Nat.lt_of_lt_of_le hm (Nat.min_le_left _ _)
    have h2 : i < items2.size := Nat.lt_of_lt_of_le hm (Nat.min_le_right _ _)
    rw [List.drop_eq_getElem_cons hlt] at hz
    injection hz with hyx hrest
    have hy : y = items[i] := by have := congrArg Prod.fst hyx; simpa using this
    have hx : x = items2[i] := by have := congrArg Prod.snd hyx; simpa using this
    subst hy hx
    refine wpAny_bind (wpAny_mono (turn i h1 h2 s' hpre hI) (fun r s2 q2 => ?_) fun _ _ x => x)
    obtain ⟨hr, q2⟩ := q2
    cases hy : e i with
    | true =>
      rw [hy] at hr
      subst hr
      wp_walk
      exact ⟨rfl, i + 1, hrest, hm, fun j hj => by
        rcases Nat.lt_or_ge j i with q | q
        · exact hpre j q
        · rw [show j = i by omega]; exact hy, q2⟩
    | false =>
      rw [hy] at hr
      subst hr
      have hR := fin s2 q2
      rw [all_no hm hy] at hR
      wp_walk
      simpa using hR
  case fin =>
    rintro ⟨b1, b2⟩ s' ⟨hb', i, hz, hi, hpre, hI⟩
    simp only at hb'
    subst hb'
    have hge : min items.size items2.size ≤ i := by
      rcases Nat.lt_or_ge i (items.toList.zip items2.toList).length with h' | h'
      · rw [List.drop_eq_getElem_cons h'] at hz; cases hz
      · exact hZ ▸ h'
    have hi' : i = min items.size items2.size := by omega
    have hR : R _ s' := fin s' hI
    rw [all_of (hi' ▸ hpre)] at hR
    wp_walk
    simpa [Builtin.Tuple.tupleCompareSizes, bne] using hR
  case h =>
    exact ⟨rfl, 0, rfl, Nat.zero_le _, fun j hj => absurd hj (Nat.not_lt_zero j), h0⟩

end
section
variable {prog : Program} {w : World} {A : Around} {E : Value → Shared → Prop} {s : Shared}

theorem rc_eq_list {l b : Addr} {N : Nat} {e : Nat → Bool} {Q : Value → Shared → Prop} (hu : A.units < cLine) (I : Shared → Prop) (hl : ListJ prog w A E l b N e I)
    (fin : ∀ s, I s → Q (.bool ((List.range N).all e)) s) (h : I s) : wpAny (model prog w) A (richCompare .Eq (.ref l) (.ref b)) Q E s := by
  obtain ⟨items, items2, n, n2, hl1, hb1, _, _, _⟩ := hl 0 _ h
  refine wpAny_richCompare_same_room (op := .Eq) ⟨_, hl1, rfl⟩ ⟨_, hb1, rfl⟩ F.slot_list_eq (call_here F.slot_list_eq ⟨_, hl1, rfl⟩ F.entry_list_eq (F.args_list_eq_2 _ _) ?_) hu
  exact list_eqJ (R := wants (fun v s' => v ≠ .notImplemented ∧ Q v s') E) l b N e I hl (fun s' q => ⟨(fun x => nomatch x), fin s' q⟩) h
theorem rc_eq_tup {l b : Addr} {items items2 : Array Value} {e : Nat → Bool} {Q : Value → Shared → Prop} (hu : A.units < cLine) (I : Shared → Prop)
    (hl : s.heap.IsTuple l items) (hb : s.heap.IsTuple b items2)
    (turn : ∀ i (h1 : i < items.size) (h2 : i < items2.size) s, (∀ j, j < i → e j = true) → I s → wpAny (model prog w) A.in1 (eqBool items[i] items2[i]) (fun r s' => r = e i ∧ I s') E s)
    (fin : ∀ s, I s → Q (.bool ((List.range (min items.size items2.size)).all e && items.size == items2.size)) s) (h : I s) : wpAny (model prog w) A (richCompare .Eq (.ref l) (.ref b)) Q E s := by
  obtain ⟨⟨cls, dd, data, sl⟩, ho, hc, n, hd⟩ := id hl
  obtain ⟨⟨cls2, dd2, data2, sl2⟩, ho2, hc2, n2, hd2⟩ := id hb
  simp only at hc hd hc2 hd2
  subst hc hd hc2 hd2
  refine wpAny_richCompare_same_room (op := .Eq) ⟨_, ho, rfl⟩ ⟨_, ho2, rfl⟩ F.slot_tuple_eq (call_here F.slot_tuple_eq ⟨_, ho, rfl⟩ F.entry_tuple_eq (F.args_tuple_eq_2 _ _) ?_) hu
  exact tuple_eqJ (R := wants (fun v s' => v ≠ .notImplemented ∧ Q v s') E) l b items items2 n n2 dd dd2 sl sl2 e I turn (fun s' q => ⟨(fun x => nomatch x), fin s' q⟩) ho ho2 h

theorem rc_ne_list {l b : Addr} {N : Nat} {e : Nat → Bool} {Q : Value → Shared → Prop} (hu : A.units < cLine) (I : Shared → Prop) (hl : ListJ prog w A E l b N e I)
    (fin : ∀ s, I s → Q (.bool (!(List.range N).all e)) s) (h : I s) : wpAny (model prog w) A (richCompare .NotEq (.ref l) (.ref b)) Q E s := by
  obtain ⟨items, items2, n, n2, hl1, hb1, _, _, _⟩ := hl 0 _ h
  refine wpAny_richCompare_same_room (op := .NotEq) ⟨_, hl1, rfl⟩ ⟨_, hb1, rfl⟩ F.slot_list_ne (call_here F.slot_list_ne ⟨_, hl1, rfl⟩ F.entry_list_ne (F.args_list_ne_2 _ _) ?_) hu
  exact list_neJ (R := wants (fun v s' => v ≠ .notImplemented ∧ Q v s') E) l b N e I hl (fun s' q => ⟨(fun x => nomatch x), fin s' q⟩) h
theorem rc_ne_tup {l b : Addr} {items items2 : Array Value} {e : Nat → Bool} {Q : Value → Shared → Prop} (hu : A.units < cLine) (I : Shared → Prop)
    (hl : s.heap.IsTuple l items) (hb : s.heap.IsTuple b items2)
    (turn : ∀ i (h1 : i < items.size) (h2 : i < items2.size) s, (∀ j, j < i → e j = true) → I s → wpAny (model prog w) A.in1 (eqBool items[i] items2[i]) (fun r s' => r = e i ∧ I s') E s)
    (fin : ∀ s, I s → Q (.bool (!((List.range (min items.size items2.size)).all e && items.size == items2.size))) s) (h : I s) : wpAny (model prog w) A (richCompare .NotEq (.ref l) (.ref b)) Q E s := by
  obtain ⟨⟨cls, dd, data, sl⟩, ho, hc, n, hd⟩ := id hl
  obtain ⟨⟨cls2, dd2, data2, sl2⟩, ho2, hc2, n2, hd2⟩ := id hb
  simp only at hc hd hc2 hd2
  subst hc hd hc2 hd2
  refine wpAny_richCompare_same_room (op := .NotEq) ⟨_, ho, rfl⟩ ⟨_, ho2, rfl⟩ F.slot_tuple_ne (call_here F.slot_tuple_ne ⟨_, ho, rfl⟩ F.entry_tuple_ne (F.args_tuple_ne_2 _ _) ?_) hu
  exact tuple_neJ (R := wants (fun v s' => v ≠ .notImplemented ∧ Q v s') E) l b items items2 n n2 dd dd2 sl sl2 e I turn (fun s' q => ⟨(fun x => nomatch x), fin s' q⟩) ho ho2 h

end
/-- a != b by the class's own ==, the class having no != of its own -/
theorem ne_K {prog : Program} {w : World} {A : Around} {E : Value → Shared → Prop} {s : Shared} {K : PySem.W.Frag} {x C L f : Addr} {h₀ : Heap} {m : Str → Option Value} {ox : Obj} {od : Option Obj} {b tb : Value}
    {Q : Value → Shared → Prop} (hu : A.units + 1 < cLine) (F₀ : PyProof.Rows.Fr h₀ L s.heap m) (X₀ : K.In h₀) (I : PySem.W.InstAt s.heap x ox C od) (hb : PySem.W.Looks (model prog w) s.heap (typeOf b) tb) (hn : PySem.W.notFirst K C tb = true)
    (hs : PySem.W.findIn K (.ref C) "__eq__" = some (some (.ref f))) (hf : PySem.W.isFn K (.ref f) = true) (hne : PySem.W.findIn K (.ref C) "__ne__" = some (some (.builtin "object.__ne__"))) (hm : PySem.W.mroIn K C (.type "object") = some true)
    (h : wpAny (model prog w) A.in1 (call (.ref f) [.ref x, b]) (fun v s' => ∃ r, v = .bool r ∧ Q (.bool (!r)) s') E s) : wpAny (model prog w) A (richCompare .NotEq (.ref x) b) Q E s := by
  have X := X₀.keeps F₀.keep
  have sub : PySem.W.Looks (model prog w) s.heap (isInstance (.ref x) (.type "object")) true := I.type.andThen (PySem.W.looks_mroIn X hm)
  have entry : wpAny (model prog w) A.in1 (Builtin.«object.__ne__» ⟨[.ref x, b], []⟩) (FinOf prog w A (wants (fun v s' => ∃ r, v = .bool r ∧ Q v s') E)) (fun e s' => wants (fun v s' => ∃ r, v = .bool r ∧ Q v s') E (.error e) s') s := by
    unfold Builtin.«object.__ne__»
    repeat (first
      | with_reducible refine wpAny_cRoomFor (show A.in1.units < cLine from hu) ?_
      | (refine wpAny_bind (m := callSpecialIfBound? (.ref x) (Str.ofString "__eq__") [b])
          (PySem.W.ifBound_K X I hs hf (wpAny_mono h (fun r s' hr => by
            obtain ⟨b', rfl, hq⟩ := hr
            repeat (first | exact ⟨_, rfl, hq⟩ | exact wpAny_pure ⟨_, rfl, hq⟩ | exact wpAny_truthy_bool ⟨_, rfl, hq⟩ | (refine wpAny_bind (m := truthy (.bool _)) (wpAny_truthy_bool ?_)) | wp_step)) fun _ _ e => e)))
      | wp_step)
  have calls : wpAny (model prog w) A (call (.builtin "object.__ne__") [.ref x, b]) (fun v s' => ∃ r, v = .bool r ∧ Q v s') E s :=
    wpAny_call (codeAny_call_builtin F.cmp_object.ne.plain F.cmpEntry_ne (@PySem.W.check_slot (model prog w) _ _ s "object.__ne__" "object" "__ne__" (.ref x) [b] [] _ F.cmpKind_ne F.cmpSplit_ne sub (F.cmpArgs_ne _ _) entry))
  have one : wpAny (model prog w) A (tryCompare (.ref x) "__ne__" b) (fun r s' => ∃ v, r = some v ∧ Q v s') E s := by
    unfold tryCompare
    refine wpAny_bind ?_
    simp only [callSpecialIfBound?, bindSpecialIfBound?]
    refine wpAny_holding (wpAny_bind (wpAny_bind (wpAny_bind (I.type.here ((PySem.W.looks_findIn X hne).here ?_)))))
    simp only [F.cmp_object.ne.bind]
    refine wpAny_bind (wpAny_askSetting (wpAny_ite ?_))
    have fin : wpAny (model prog w) A (call (.builtin "object.__ne__") ([.ref x] ++ [b]) >>= fun v => pure (some v)) (fun r s' => wpAny (model prog w) A (match r with | some .notImplemented | none => pure none | some r => pure (some r)) (fun r s' => ∃ v, r = some v ∧ Q v s') E s') E s :=
      wpAny_bind (wpAny_mono calls (fun v s' h' => by
        obtain ⟨r, rfl, q⟩ := h'
        exact wpAny_pure (wpAny_pure ⟨_, rfl, q⟩)) fun _ _ h' => h')
    split
    · exact wpAny_bind (wpAny_pure (wpAny_pure (by exact fin)))
    · exact wpAny_tryCatch (wpAny_bind (wpAny_pure (wpAny_pure (by exact fin))))
  unfold richCompare
  simp only [oneThing_ref]
  refine wpAny_holding (wpAny_bind (wpAny_cRoomFor (Nat.lt_of_succ_lt hu) ?_))
  refine wpAny_bind (I.type.here (wpAny_bind (hb.here ?_)))
  split
  · rename_i q
    have e : PySem.W.subIn K tb (.ref C) = some false := by
      rcases Bool.or_eq_true_iff.mp hn with e | e
      · rw [beq_iff_eq.mp e] at q; simp at q
      · exact beq_iff_eq.mp e
    refine wpAny_bind ((PySem.W.looks_subIn X e).here ?_)
    simp only [Bool.false_eq_true, if_false]
    refine wpAny_bind (wpAny_mono one (fun r s' z => ?_) fun _ _ e => e)
    obtain ⟨v, rfl, hq⟩ := z
    exact wpAny_pure hq
  · refine wpAny_bind (wpAny_pure ?_)
    simp only [Bool.false_eq_true, if_false]
    refine wpAny_bind (wpAny_mono one (fun r s' z => ?_) fun _ _ e => e)
    obtain ⟨v, rfl, hq⟩ := z
    exact wpAny_pure hq
end QE
namespace Y
open PySem L2
open PySem.Spec PyProof.Rows
open Evl (Ex)

/-! ### == of values that hold instances -/
def W.at : W → Option V
  | .non => some .non
  | .bl b => some (.bl b)
  | .int i => some (.int i)
  | .str s => some (.str s)
  | _ => none
def eqA (a b : W) : Option Bool := match a.at, b.at with
  | some x, some y => some (eqV x y)
  | _, _ => none
/-- pure data, equal by the data -/
def eqP (p q : W) : Option Bool := match p.pd, q.pd with
  | some d, some e => if (SeqAt.shaped d && SeqAt.shaped e) = true then some (PyData.eqv d e) else none
  | _, _ => none
/-- the fields of two instances of the class c -/
def eqF (c : Nat) (fs gs : List W) : Option Bool := match c, fs, gs with
  | 0, [.int a, .int b], [.int a', .int b'] => some (decide (a = a') && decide (b = b'))
  | 1, [.int a], [.int a'] => some (decide (a = a'))
  | 2, [.int a], [.int a'] => some (decide (a = a'))
  | 3, [p], [q] => eqP p q
  | _, _, _ => none
/-- an instance of the class c with the fields fs == o, by the class's own == -/
def eqI (c : Nat) (fs : List W) (o : W) : Option Bool := match o with
  | .ins c' gs => if c = c' then eqF c fs gs else some false
  | .non => some false
  | .bl _ => some false
  | .int _ => some false
  | .str _ => some false
  | .tup _ => some false
  | .lst _ => some false
  | _ => none
def eqWs (f : W → W → Option Bool) : List W → List W → Option Bool
  | [], [] => some true
  | x :: xs, y :: ys => match f x y with
    | some true => eqWs f xs ys
    | some false => some false
    | none => none
  | _, _ => some false
/-- one level -/
def eqS (f : W → W → Option Bool) (a b : W) : Option Bool := match a, b with
  | .lst xs, .lst ys => eqWs f xs ys
  | .tup xs, .tup ys => eqWs f xs ys
  | .ins c fs, o => if c < 4 then eqI c fs o else none
  | a, b => eqA a b
def eqW : Nat → W → W → Option Bool
  | 0 => eqA
  | n + 1 => eqS (eqW n)

/-! ### types -/
inductive Ty0 where
  | b (n : String) | i (c : Nat)
  deriving DecidableEq
def Ty0.v (Z : Zx) : Ty0 → Value
  | .b n => .type n
  | .i c => .ref (Z.cls c)
def W.ty0 : W → Option Ty0
  | .non => some (.b "NoneType")
  | .bl _ => some (.b "bool")
  | .int _ => some (.b "int")
  | .str _ => some (.b "str")
  | .lst _ => some (.b "list")
  | .tup _ => some (.b "tuple")
  | .dK _ => some (.b "dict")
  | .scr _ => some (.b "list")
  | .ins c _ => some (.i c)
  | _ => none
def T.ty0 : T → Option Ty0
  | .fz w => w.ty0
  | .lst _ => some (.b "list")
  | .dK _ => some (.b "dict")
  | .dT _ => some (.b "dict")
  | .ins c _ => some (.i c)
  | .wo _ _ => none
  | .dR _ => none
  | .dd _ _ => none
def bases : List String := ["NoneType", "bool", "int", "str", "list", "tuple", "dict"]
def Ty0.ok (Z : Zx) : Ty0 → Prop
  | .b n => n ∈ bases
  | .i c => Z.has c = true
theorem Ty0.ok_b {Z : Zx} {n : String} (h : n ∈ bases) : Ty0.ok Z (.b n) := h
/-- what a row says of its own classes, for isinstance and == -/
structure ClsOk (K : PySem.W.Frag) (Z : Zx) : Prop where
  cl : ∀ c, Z.has c = true → C8.InsC K (Z.cls c)
  inj : ∀ c c', Z.has c = true → Z.has c' = true → Z.cls c = Z.cls c' → c = c'
  nfi : ∀ c c', Z.has c = true → Z.has c' = true → PySem.W.notFirst K (Z.cls c) (.ref (Z.cls c')) = true
  nfb : ∀ c n, Z.has c = true → n ∈ bases → PySem.W.notFirst K (Z.cls c) (.type n) = true
def isT : Ty0 → Ty0 → Bool
  | .i c, .i c' => c == c'
  | .b n, .b m => n == m || (n == "bool" && m == "int")
  | _, _ => false
/-- isinstance's answers for the class C of a row -/
def IsOk (K : PySem.W.Frag) (Z : Zx) (C : Ty0) : Prop := (∀ c, Z.has c = true → PySem.W.kitOne K (.ref (Z.cls c)) (C.v Z) = some (isT (.i c) C)) ∧ ∀ n, n ∈ bases → PySem.W.kitOne K (.type n) (C.v Z) = some (isT (.b n) C)
section
variable {K : PySem.W.Frag} {Z : Zx} {H : Hp}
theorem Rep.tyx (ok : ClsOk K Z) {v : V} {w : W} {t : Ty0} (h : Rep K Z H v w) (e : w.ty0 = some t) : TyX K H v (t.v Z) ∧ t.ok Z := by
  cases h with
  | non => cases e; exact ⟨.base .non, Ty0.ok_b (by decide)⟩
  | bl => cases e; exact ⟨.base (.bl _), Ty0.ok_b (by decide)⟩
  | int => cases e; exact ⟨.base (.int _), Ty0.ok_b (by decide)⟩
  | str => cases e; exact ⟨.base (.str _), Ty0.ok_b (by decide)⟩
  | ty => cases e
  | ob => cases e
  | tup h r =>
    cases e
    refine ⟨?_, Ty0.ok_b (by decide)⟩
    rcases h with h | ⟨o, its, n, h1, h2, _⟩
    · rcases h with h | ⟨o, h⟩
      · exact .base (.tup h)
      · exact .fTuple h
    · exact .kTuple h1 h2
  | lst h r => cases e; exact ⟨.base (.lst h), Ty0.ok_b (by decide)⟩
  | scr h =>
    cases e
    refine ⟨?_, Ty0.ok_b (by decide)⟩
    rcases h with h | ⟨o, its, n, h1, h2, _⟩
    · rcases h with h | ⟨o, h⟩
      · exact .base (.lst h)
      · exact .base (.frz h)
    · exact .kList h1 h2
  | dK h r =>
    cases e
    refine ⟨?_, Ty0.ok_b (by decide)⟩
    rcases h with h | ⟨o, h⟩
    · exact .base (.dK h)
    · exact .fDict h
  | dT h r => cases e
  | dF h r => cases e
  | tp _ _ _ => cases e
  | xc0 _ => cases e
  | xcd _ _ _ _ => cases e
  | ins z h n r =>
    cases e
    obtain ⟨c1, c2, c3, c4, c5, _⟩ := ok.cl _ z
    exact ⟨.base (.ins h c1 c2 c3 c4 c5), z⟩
mutual
theorem Rep.pd_uniq {X : Cx} {pins : List (Addr × Obj)} {σ : L2.St} {s : Shared} (I : Inv X pins σ H s) : ∀ (w u : W) {v : V} {d e : PyData}, Rep X.K Z H v w → Rep X.K Z H v u → w.pd = some d → u.pd = some e → d = e
  | .non, _, _, _, _, h, h', e1, e2 => by cases h; cases h'; cases e1; cases e2; rfl
  | .bl b, _, _, _, _, h, h', e1, e2 => by cases h; cases h'; cases e1; cases e2; rfl
  | .int b, _, _, _, _, h, h', e1, e2 => by cases h; cases h'; cases e1; cases e2; rfl
  | .str b, _, _, _, _, h, h', e1, e2 => by cases h; cases h'; cases e1; cases e2; rfl
  | .tup ws, u, _, _, _, h, h', e1, e2 => by
    cases h with
    | tup hs r =>
      unfold W.pd at e1
      obtain ⟨ds, h1, rfl⟩ := Option.map_eq_some_iff.mp e1
      cases h' with
      | tup hs' r' =>
        unfold W.pd at e2
        obtain ⟨es, h2, rfl⟩ := Option.map_eq_some_iff.mp e2
        have := I.tuple_inj hs hs'
        subst this
        rw [Reps.pd_uniq I ws _ r r' h1 h2]
      | lst hs' r' =>
        obtain ⟨_, _, ⟨o, g1, g2, _⟩, _⟩ := I.tuple hs
        obtain ⟨_, _, ⟨o', _, g3, g4, _⟩, _⟩ := I.list (.inl (.of hs'))
        rw [g1] at g3; cases g3
        exact absurd (g2.symm.trans g4) (by decide)
      | _ => simp [W.pd] at e2
  | .lst ws, u, _, _, _, h, h', e1, e2 => by
    cases h with
    | lst hs r =>
      unfold W.pd at e1
      obtain ⟨ds, h1, rfl⟩ := Option.map_eq_some_iff.mp e1
      cases h' with
      | lst hs' r' =>
        unfold W.pd at e2
        obtain ⟨es, h2, rfl⟩ := Option.map_eq_some_iff.mp e2
        rw [hs] at hs'; cases hs'
        rw [Reps.pd_uniq I ws _ r r' h1 h2]
      | tup hs' r' =>
        obtain ⟨_, _, ⟨o, g1, g2, _⟩, _⟩ := I.tuple hs'
        obtain ⟨_, _, ⟨o', _, g3, g4, _⟩, _⟩ := I.list (.inl (.of hs))
        rw [g1] at g3; cases g3
        exact absurd (g2.symm.trans g4) (by decide)
      | _ => simp [W.pd] at e2
  | .ty _, _, _, _, _, _, _, e, _ => by simp [W.pd] at e
  | .scr _, _, _, _, _, _, _, e, _ => by simp [W.pd] at e
  | .ob _, _, _, _, _, _, _, e, _ => by simp [W.pd] at e
  | .dK _, _, _, _, _, _, _, e, _ => by simp [W.pd] at e
  | .dT _, _, _, _, _, _, _, e, _ => by simp [W.pd] at e
  | .ins _ _, _, _, _, _, _, _, e, _ => by simp [W.pd] at e
theorem Reps.pd_uniq {X : Cx} {pins : List (Addr × Obj)} {σ : L2.St} {s : Shared} (I : Inv X pins σ H s) : ∀ (ws us : List W) {vs : List V} {ds es : List PyData}, Reps X.K Z H vs ws → Reps X.K Z H vs us → W.pds ws = some ds → W.pds us = some es → ds = es
  | [], _, _, _, _, h, h', e1, e2 => by cases h; cases h'; simp [W.pds] at e1 e2; exact e1.trans e2.symm
  | w :: ws, us, _, _, _, h, h', e1, e2 => by
    cases h with
    | cons h r =>
      cases h' with
      | cons h' r' =>
        unfold W.pds at e1 e2
        obtain ⟨d, g1, e1⟩ := Option.bind_eq_some_iff.mp e1
        obtain ⟨ds, g2, rfl⟩ := Option.map_eq_some_iff.mp e1
        obtain ⟨e, g3, e2⟩ := Option.bind_eq_some_iff.mp e2
        obtain ⟨es, g4, rfl⟩ := Option.map_eq_some_iff.mp e2
        rw [Rep.pd_uniq I w _ h h' g1 g3, Reps.pd_uniq I ws _ r r' g2 g4]
end
theorem eqV_self (x : V) (f : flatV x = true) : eqV x x = true := by
  cases x with
  | non => rfl
  | bl b => cases b <;> rfl
  | int i => simp [eqV]
  | str i => simp [eqV]
  | _ => exact absurd (show false = true from f) Bool.false_ne_true
theorem at_flat {w : W} {x : V} (e : w.at = some x) : flatV x = true := by
  cases w <;> first | (cases e; rfl) | (cases e)
theorem Rep.at_eq {v : V} {w : W} {x : V} (h : Rep K Z H v w) (e : w.at = some x) : v = x := by
  cases h <;> first | (cases e; rfl) | (cases e)
end
mutual
theorem eqv_self : ∀ d : PyData, d.canLay0 = true → PyData.eqv d d = true
  | .none, _ => by simp [PyData.eqv]
  | .bool b, _ => by simp [PyData.eqv]
  | .int b, _ => by simp [PyData.eqv]
  | .str b, _ => by simp [PyData.eqv]
  | .list ds, h => by simp only [PyData.eqv]; exact eqvs_self ds (by simpa [PyData.canLay0] using h)
  | .tuple ds, h => by simp only [PyData.eqv]; exact eqvs_self ds (by simpa [PyData.canLay0] using h)
  | .dict _, h => by simp [PyData.canLay0] at h
theorem eqvs_self : ∀ ds : List PyData, PyData.canLayAll0 ds = true → PyData.eqvAll ds ds = true
  | [], _ => by simp [PyData.eqvAll]
  | d :: ds, h => by
    obtain ⟨h1, h2⟩ := Bool.and_eq_true_iff.mp (show (d.canLay0 && PyData.canLayAll0 ds) = true by simpa [PyData.canLayAll0] using h)
    simp only [PyData.eqvAll]
    rw [eqv_self d h1, eqvs_self ds h2]
    rfl
end
end Y
namespace Y
open PySem L2
open PySem.Spec PyProof.Rows
open Evl (Ex)

/-! ### deep == with both answers -/
/-- what an own == promises -/
def cEq (c : Nat) : Ct := fun ts k _ => ∃ fs o r, ts = [.fz (.ins c fs), .fz o] ∧ eqI c fs o = some r ∧ k (.fz (.bl r)) ts
structure EqOwn (P : Program) (w : World) (K : PySem.W.Frag) (mg : Str → Option Value) (base : Heap) (CX' : CXT) (Z : Zx) (kq : Nat) : Prop where
  cls : ClsOk K Z
  own : ∀ c, c < 4 → Z.has c = true → ∃ f fd, FnOk P w K mg base CX' kq f fd ["self", "other"] (spOf K Z.z0 (cEq c)) ∧ PySem.W.findIn K (.ref (Z.cls c)) "__eq__" = some (some (.ref f)) ∧ PySem.W.isFn K (.ref f) = true ∧
    Binds K fd ["self", "other"] [] ∧ PySem.W.findIn K (.ref (Z.cls c)) "__ne__" = some (some (.builtin "object.__ne__"))
abbrev Dq := V → V → Hp → Bool → Prop
def DqW (K : PySem.W.Frag) (Z : Zx) (n : Nat) : Dq := fun x y H b => ∃ w1 w2, Rep K Z H x w1 ∧ Rep K Z H y w2 ∧ eqW n w1 w2 = some b
def EqG2 (X : Cx) (n : Nat) (D : Dq) : Prop :=
  ∀ (A : Around) (pins : List (Addr × Obj)) (s : Shared) (σ : L2.St) (H : Hp) (x y : V) (u v : Value) (b : Bool), Sub X n A → Inv X pins σ H s → RelV x u → RelV y v → D x y H b →
    wpAny (model X.prog X.w) A (eqBool u v) (fun r s' => r = b ∧ ∃ H', Inv X pins σ H' s' ∧ Ex H H') X.xe s
def nq (ng b : Bool) : Bool := if ng then !b else b
def opq (ng : Bool) : CmpOp := if ng then .NotEq else .Eq
section
variable {X : Cx} {Z : Zx} {n kq : Nat}
theorem eqWs_self {f : W → W → Option Bool} {K : PySem.W.Frag} {H : Hp} (hf : ∀ w1 w2 v b, Rep K Z H v w1 → Rep K Z H v w2 → f w1 w2 = some b → b = true) : ∀ (ws us : List W) {vs : List V} {b : Bool}, Reps K Z H vs ws → Reps K Z H vs us → eqWs f ws us = some b → b = true
  | [], us, _, b, h, h', e => by cases h; cases h'; cases e; rfl
  | w :: ws, us, _, b, h, h', e => by
    cases h with
    | cons h r =>
      cases h' with
      | cons h' r' =>
        rename_i u us
        unfold eqWs at e
        cases q : f w u with
        | none => rw [q] at e; cases e
        | some z =>
          have := hf _ _ _ _ h h' q
          subst this
          rw [q] at e
          exact eqWs_self hf ws us r r' e
theorem eqA_some {a b : W} {r : Bool} (e : eqA a b = some r) : ∃ x y, a.at = some x ∧ b.at = some y ∧ r = eqV x y := by
  unfold eqA at e
  cases q1 : a.at with
  | none => rw [q1] at e; cases e
  | some x =>
    cases q2 : b.at with
    | none => rw [q1, q2] at e; cases e
    | some y => rw [q1, q2] at e; exact ⟨x, y, rfl, rfl, (Option.some.inj e).symm⟩
theorem eqA_self {K : PySem.W.Frag} {H : Hp} {w1 w2 : W} {v : V} {b : Bool} (h1 : Rep K Z H v w1) (h2 : Rep K Z H v w2) (e : eqA w1 w2 = some b) : b = true := by
  obtain ⟨x, y, e1, e2, rfl⟩ := eqA_some e
  have p1 := h1.at_eq e1
  have p2 := h2.at_eq e2
  rw [← p1, ← p2]
  exact eqV_self v (by rw [p1]; exact at_flat e1)
theorem int_self {K : PySem.W.Frag} {H : Hp} {v : V} {i j : Int} (h : Rep K Z H v (.int i)) (h' : Rep K Z H v (.int j)) : i = j := by
  cases h; cases h'; rfl
theorem eqW_self (ok : ClsOk X.K Z) {pins : List (Addr × Obj)} {σ : L2.St} {H : Hp} {s : Shared} (I : Inv X pins σ H s) : ∀ (n : Nat) (w1 w2 : W) (v : V) (b : Bool), Rep X.K Z H v w1 → Rep X.K Z H v w2 → eqW n w1 w2 = some b → b = true := by
  intro n
  induction n with
  | zero => intro w1 w2 v b h1 h2 e; exact eqA_self h1 h2 e
  | succ n ih =>
    intro w1 w2 v b h1 h2 e
    replace e : eqS (eqW n) w1 w2 = some b := e
    unfold eqS at e
    split at e
    · cases h1 with | lst a1 r1 =>
      cases h2 with | lst a2 r2 =>
      rw [a1] at a2; cases a2
      exact eqWs_self ih _ _ r1 r2 e
    · cases h1 with | tup a1 r1 =>
      cases h2 with | tup a2 r2 =>
      have := I.tuple_inj a1 a2; subst this
      exact eqWs_self ih _ _ r1 r2 e
    · rename_i c fs
      split at e
      · cases h1 with
        | ins z1 a1 n1 r1 =>
          cases h2 with
          | ins z2 a2 n2 r2 =>
            rw [a1] at a2
            injection a2 with a2
            injection a2 with p1 p2 p3
            subst p3
            have := ok.inj _ _ z1 z2 p1
            subst this
            rename_i gs
            replace e : (if c = c then eqF c fs gs else some false) = some b := e
            rw [if_pos rfl] at e
            generalize List.map (fun x : Str × V => x.snd) _ = vs at r1 r2
            unfold eqF at e
            split at e
            · cases r1 with | cons g1 r1 => cases r1 with | cons g1' r1 =>
              cases r2 with | cons g2 r2 => cases r2 with | cons g2' r2 =>
              cases e
              rw [int_self g1 g2, int_self g1' g2']; simp
            · cases r1 with | cons g1 r1 =>
              cases r2 with | cons g2 r2 =>
              cases e
              rw [int_self g1 g2]; simp
            · cases r1 with | cons g1 r1 =>
              cases r2 with | cons g2 r2 =>
              cases e
              rw [int_self g1 g2]; simp
            · cases r1 with | cons g1 r1 =>
              cases r2 with | cons g2 r2 =>
              unfold eqP at e
              split at e
              · rename_i d d' q1 q2
                split at e
                · rename_i sh
                  have := Rep.pd_uniq I _ _ g1 g2 q1 q2
                  subst this
                  cases e
                  obtain ⟨sh, _⟩ := Bool.and_eq_true_iff.mp sh
                  exact eqv_self _ (SeqAt.canLay_of_shaped sh)
                · cases e
              · cases e
            · cases e
          | tup a2 _ =>
            obtain ⟨_, _, ⟨o, g1, g2, _⟩, _⟩ := I.tuple a2
            obtain ⟨mA, O, _⟩ := ins_get I.hok a1
            have := O.obj
            rw [g1] at this; cases this
            cases g2
          | lst a2 _ => rw [a1] at a2; cases a2
          | _ => unfold eqI at e; cases e
      · cases e
    · exact eqA_self h1 h2 e
theorem turnG2 (hm : ∀ x y H H' b, Ex H H' → DqW X.K Z n x y H b → DqW X.K Z n x y H' b) {m : Nat} (h : EqG2 X m (DqW X.K Z n)) {A : Around} (sb : Sub X (m + 1) A) {pins : List (Addr × Obj)} {σ : L2.St} {H : Hp} {xs ys : List V} {its its2 : List Value} (r : Vals xs its) (r2 : Vals ys its2)
    (i : Nat) (b : Bool) (h1 : i < its.toArray.size) (h2 : i < its2.toArray.size) (hd : ∀ x y, xs[i]? = some x → ys[i]? = some y → DqW X.K Z n x y H b) (s' : Shared) (l : LoopI X pins σ H s') :
    wpAny (model X.prog X.w) A.in1 (eqBool its.toArray[i] its2.toArray[i]) (fun r s2 => r = b ∧ LoopI X pins σ H s2) X.xe s' := by
  obtain ⟨H1, I1, e1⟩ := l
  have g1 : its[i]? = some its.toArray[i] := by
    have h1' : i < its.length := by simpa using h1
    rw [List.getElem?_eq_getElem h1'] <;> simp
  have g2 : its2[i]? = some its2.toArray[i] := by
    have h2' : i < its2.length := by simpa using h2
    rw [List.getElem?_eq_getElem h2'] <;> simp
  have k1 : i < xs.length := by rw [r.length]; simpa using h1
  have k2 : i < ys.length := by rw [r2.length]; simpa using h2
  obtain ⟨u, hu, ru⟩ := r.get (List.getElem?_eq_getElem k1)
  obtain ⟨v, hv, rv⟩ := r2.get (List.getElem?_eq_getElem k2)
  rw [g1] at hu
  rw [g2] at hv
  rw [Option.some.inj hu, Option.some.inj hv]
  refine wpAny_mono (h A.in1 pins s' σ H1 _ _ u v b sb.in1 I1 ru rv (hm _ _ _ _ _ e1 (hd _ _ (List.getElem?_eq_getElem k1) (List.getElem?_eq_getElem k2)))) (fun r s2 q => ?_) fun _ _ x => x
  obtain ⟨hr, H2, I2, e2⟩ := q
  exact ⟨hr, H2, I2, e1.trans e2⟩
theorem mon_DqW : ∀ x y H H' b, Ex H H' → DqW X.K Z n x y H b → DqW X.K Z n x y H' b := fun x y H H' b e d => by
  obtain ⟨w1, w2, h1, h2, h3⟩ := d
  exact ⟨w1, w2, h1.mono e, h2.mono e, h3⟩
/-- the i-th answers up to the first no -/
def eqAt (f : W → W → Option Bool) (ws us : List W) (i : Nat) : Bool := match ws[i]?, us[i]? with
  | some w, some u => (f w u).getD false
  | _, _ => false
end
theorem eqWs_at {f : W → W → Option Bool} : ∀ (ws us : List W) (b : Bool), eqWs f ws us = some b →
    (∀ i w u, ws[i]? = some w → us[i]? = some u → (∀ j, j < i → eqAt f ws us j = true) → f w u = some (eqAt f ws us i)) ∧ b = ((List.range (min ws.length us.length)).all (eqAt f ws us) && ws.length == us.length)
  | [], [], b, e => by cases e; exact ⟨fun i w u h => by simp at h, rfl⟩
  | [], u :: us, b, e => by cases e; exact ⟨fun i w u h => by simp at h, rfl⟩
  | w :: ws, [], b, e => by cases e; exact ⟨fun i w u h h' => by simp at h', rfl⟩
  | w :: ws, u :: us, b, e => by
    unfold eqWs at e
    have e0 : eqAt f (w :: ws) (u :: us) 0 = (f w u).getD false := rfl
    have eS : ∀ i, eqAt f (w :: ws) (u :: us) (i + 1) = eqAt f ws us i := fun i => rfl
    have mn : min (w :: ws).length (u :: us).length = min ws.length us.length + 1 := by simp only [List.length_cons]; omega
    have rg : (List.range (min ws.length us.length + 1)).all (eqAt f (w :: ws) (u :: us)) = (eqAt f (w :: ws) (u :: us) 0 && (List.range (min ws.length us.length)).all (eqAt f ws us)) := by
      rw [List.range_succ_eq_map, List.all_cons, List.all_map]
      rfl
    rw [mn, rg, e0]
    cases q : f w u with
    | none => rw [q] at e; cases e
    | some z =>
      rw [q] at e
      cases z with
      | false =>
        cases e
        refine ⟨fun i w' u' h1 h2 hp => ?_, rfl⟩
        cases i with
        | zero =>
          simp at h1 h2; subst h1; subst h2
          rw [e0, q]; rfl
        | succ i => have := hp 0 (Nat.succ_pos _); rw [e0, q] at this; cases this
      | true =>
        obtain ⟨h3, h4⟩ := eqWs_at ws us b e
        refine ⟨fun i w' u' h1 h2 hp => ?_, ?_⟩
        · cases i with
          | zero =>
            simp at h1 h2; subst h1; subst h2
            rw [e0, q]; rfl
          | succ i => exact h3 i w' u' (by simpa using h1) (by simpa using h2) fun j hj => hp (j + 1) (by omega)
        · rw [h4]
          simp
section
variable {X : Cx} {Z : Zx} {n m kq : Nat} {ng : Bool}
theorem rcG2_of (ng : Bool) {A : Around} {u v : Value} {b : Bool} {P : Shared → Prop} {s : Shared} {E : Value → Shared → Prop} {prog : Program} {w : World}
    (h : ng = false → wpAny (model prog w) A (richCompare .Eq u v) (fun r s' => r = .bool b ∧ P s') E s) (h' : ng = true → wpAny (model prog w) A (richCompare .NotEq u v) (fun r s' => r = .bool (!b) ∧ P s') E s) :
    wpAny (model prog w) A (richCompare (opq ng) u v) (fun r s' => r = .bool (nq ng b) ∧ P s') E s := by
  cases ng with
  | false => exact h rfl
  | true => exact h' rfl
theorem rcG2_list (h : EqG2 X m (DqW X.K Z n)) {A : Around} {pins : List (Addr × Obj)} {s : Shared} {σ : L2.St} {H : Hp} {a b : Addr} {xs ys : List V} {ws us : List W} {r : Bool} (sb : Sub X (m + 1) A) (I : Inv X pins σ H s)
    (ha : H a = some (.lst xs)) (hb : H b = some (.lst ys)) (r1 : Reps X.K Z H xs ws) (r2 : Reps X.K Z H ys us) (hr : eqWs (eqW n) ws us = some r) :
    wpAny (model X.prog X.w) A (richCompare (opq ng) (.ref a) (.ref b)) (fun v s' => v = .bool (nq ng r) ∧ ∃ H', Inv X pins σ H' s' ∧ Ex H H') X.xe s := by
  obtain ⟨h1, h2⟩ := eqWs_at ws us r hr
  have l1 := r1.length
  have l2 := r2.length
  by_cases hl : xs.length = ys.length
  · have hrr : r = (List.range xs.length).all (eqAt (eqW n) ws us) := by
      rw [h2, ← l1, ← l2, hl, Nat.min_self]; simp
    have J : QE.ListJ X.prog X.w A X.xe a b xs.length (eqAt (eqW n) ws us) (fun s' => LoopI X pins σ H s') := fun i s' q => by
      obtain ⟨H1, I1, e1⟩ := id q
      obtain ⟨z, its, k, rv, e⟩ := I1.hok a _ (e1 _ _ ha)
      obtain ⟨z2, its2, k2, rv2, e2⟩ := I1.hok b _ (e1 _ _ hb)
      refine ⟨its.toArray, its2.toArray, k, k2, e, e2, by rw [List.size_toArray, ← rv.length], by rw [List.size_toArray, ← rv2.length, ← hl], fun hp g1 g2 => ?_⟩
      exact turnG2 mon_DqW h sb rv rv2 i _ g1 g2 (fun x y hx hy => by
        obtain ⟨w, hw, rw1⟩ := r1.getV hx
        obtain ⟨u, hu, ru1⟩ := r2.getV hy
        exact ⟨w, u, rw1, ru1, h1 i w u hw hu hp⟩) s' q
    refine rcG2_of ng (fun _ => ?_) (fun _ => ?_)
    · exact QE.rc_eq_list sb.room.units0 _ J (fun s' q => by rw [← hrr]; exact ⟨rfl, q⟩) ⟨H, I, Ex.refl _⟩
    · exact QE.rc_ne_list sb.room.units0 _ J (fun s' q => by rw [← hrr]; exact ⟨rfl, q⟩) ⟨H, I, Ex.refl _⟩
  · have hrr : r = false := by
      rw [h2]
      have : (ws.length == us.length) = false := by rw [← l1, ← l2]; simpa using hl
      rw [this, Bool.and_false]
    subst hrr
    obtain ⟨z, its, k, rv, e⟩ := I.hok a _ ha
    obtain ⟨z2, its2, k2, rv2, e2⟩ := I.hok b _ hb
    have hsz : (its.toArray.size != its2.toArray.size) = true := by
      rw [List.size_toArray, List.size_toArray, ← rv.length, ← rv2.length]
      simpa using hl
    refine rcG2_of ng (fun _ => ?_) (fun _ => ?_)
    · exact SeqAt.RcAt.lists_lengths ⟨_, e, rfl, _, rfl⟩ ⟨_, e2, rfl, _, rfl⟩ hsz sb.room.units0 _ _ _ _ ⟨rfl, H, I, Ex.refl _⟩
    · exact SeqAt.RcNeAt.lists_lengths ⟨_, e, rfl, _, rfl⟩ ⟨_, e2, rfl, _, rfl⟩ hsz sb.room.units0 _ _ _ _ ⟨rfl, H, I, Ex.refl _⟩
theorem rcG2_tup (h : EqG2 X m (DqW X.K Z n)) {A : Around} {pins : List (Addr × Obj)} {s : Shared} {σ : L2.St} {H : Hp} {a b : Addr} {xs ys : List V} {ws us : List W} {r : Bool} (sb : Sub X (m + 1) A) (I : Inv X pins σ H s)
    (ha : SqT X.K H a xs) (hb : SqT X.K H b ys) (r1 : Reps X.K Z H xs ws) (r2 : Reps X.K Z H ys us) (hr : eqWs (eqW n) ws us = some r) :
    wpAny (model X.prog X.w) A (richCompare (opq ng) (.ref a) (.ref b)) (fun v s' => v = .bool (nq ng r) ∧ ∃ H', Inv X pins σ H' s' ∧ Ex H H') X.xe s := by
  obtain ⟨h1, h2⟩ := eqWs_at ws us r hr
  have l1 := r1.length
  have l2 := r2.length
  obtain ⟨its, rv, e, z⟩ := I.tuple ha
  obtain ⟨its2, rv2, e2, z2⟩ := I.tuple hb
  have s1 : its.toArray.size = ws.length := by rw [List.size_toArray, ← rv.length, l1]
  have s2 : its2.toArray.size = us.length := by rw [List.size_toArray, ← rv2.length, l2]
  have turn : ∀ i (h1 : i < its.toArray.size) (h2 : i < its2.toArray.size) s', (∀ j, j < i → eqAt (eqW n) ws us j = true) → LoopI X pins σ H s' → wpAny (model X.prog X.w) A.in1 (eqBool its.toArray[i] its2.toArray[i]) (fun r s' => r = eqAt (eqW n) ws us i ∧ LoopI X pins σ H s') X.xe s' :=
    fun i g1 g2 s' hp q => turnG2 mon_DqW h sb rv rv2 i _ g1 g2 (fun x y hx hy => by
        obtain ⟨w, hw, rw1⟩ := r1.getV hx
        obtain ⟨u, hu, ru1⟩ := r2.getV hy
        exact ⟨w, u, rw1, ru1, h1 i w u hw hu hp⟩) s' q
  refine rcG2_of ng (fun _ => ?_) (fun _ => ?_)
  · exact QE.rc_eq_tup (e := eqAt (eqW n) ws us) sb.room.units0 (fun s' => LoopI X pins σ H s') e e2 turn (fun s' q => by rw [s1, s2, ← h2]; exact ⟨rfl, q⟩) ⟨H, I, Ex.refl _⟩
  · exact QE.rc_ne_tup (e := eqAt (eqW n) ws us) sb.room.units0 (fun s' => LoopI X pins σ H s') e e2 turn (fun s' q => by rw [s1, s2, ← h2]; exact ⟨rfl, q⟩) ⟨H, I, Ex.refl _⟩
theorem own_ty (ok : ClsOk X.K Z) {pins : List (Addr × Obj)} {s : Shared} {σ : L2.St} {H : Hp} (I : Inv X pins σ H s) {y : V} {v : Value} {o : W} {c : Nat} {fs : List W} {r : Bool} (hz : Z.has c = true) (ry : RelV y v) (ho : Rep X.K Z H y o) (e : eqI c fs o = some r) :
    ∃ tb, PySem.W.Looks (model X.prog X.w) s.heap (typeOf v) tb ∧ PySem.W.notFirst X.K (Z.cls c) tb = true := by
  have ht : ∃ t, o.ty0 = some t := by
    unfold eqI at e
    split at e <;> first | exact ⟨_, rfl⟩ | cases e
  obtain ⟨t, ht⟩ := ht
  obtain ⟨tx, tok⟩ := ho.tyx ok ht
  obtain ⟨P, kx, p, _⟩ := kit_of I ry tx
  refine ⟨t.v Z, kx.ty _ _ I.kIn p, ?_⟩
  cases t with
  | b n => exact ok.nfb c n hz tok
  | i c' => exact ok.nfi c c' hz tok
theorem rcG2_ins {CX' : CXT} {E : XK} (ow : EqOwn X.prog X.w X.K X.mg X.base CX' Z kq) (hp : Passes CX' X E) {A : Around} {pins : List (Addr × Obj)} {s : Shared} {σ : L2.St} {H : Hp} {x y : V} {u v : Value} {c : Nat} {fs : List W} {o : W} {r : Bool} (sb : Sub X (kq + 1) A) (I : Inv X pins σ H s) (rx : RelV x u) (ry : RelV y v)
    (hx : Rep X.K Z H x (.ins c fs)) (ho : Rep X.K Z H y o) (hc : c < 4) (e : eqI c fs o = some r) :
    wpAny (model X.prog X.w) A (richCompare (opq ng) u v) (fun v s' => v = .bool (nq ng r) ∧ ∃ H', Inv X pins σ H' s' ∧ Ex H H') X.xe s := by
  cases id hx with
  | @ins a _ dx gs _ hz hi hn hr =>
    cases rx
    obtain ⟨f, fd, F, hs, hf, hb, hne⟩ := ow.own c hc hz
    obtain ⟨tb, ht, hnf⟩ := own_ty ow.cls I hz ry ho e
    obtain ⟨mA, J, _⟩ := ins_get I.hok hi
    obtain ⟨od, J, _⟩ := J.look
    obtain ⟨m, hF⟩ := I.fr
    have hsp : spOf X.K Z.z0 (cEq c) [.ref a, y] H (fun v H' => v = .bl r ∧ Ex H H') E := by
      refine ⟨H, fun _ => none, [], [.fz (.ins c fs), .fz o], fun t _ => t = .fz (.bl r), fun _ _ => False, ⟨Ex.refl _, fun _ _ h => (nomatch h), fun q hq => (nomatch hq), List.nodup_nil, fun q hq => (nomatch hq), fun q hq => (nomatch hq), fun _ _ _ => rfl, fun _ _ _ h => (nomatch h), fun q hq => (nomatch hq)⟩,
        .cons (G1 := []) (.fz hx.z0) (.cons (G1 := []) (.fz ho.z0) .nil), ⟨fs, o, r, rfl, e, rfl⟩, fun H0' Gv Ga' H' v' t ts' ex wd rt _ ht => ?_, fun _ _ _ _ _ _ _ _ _ _ _ h => h.elim, fun _ h => (nomatch h)⟩
      subst ht
      cases rt with | fz rt => cases rt; exact ⟨rfl, ex.trans wd.ex⟩
    have call : ∀ (A' : Around), A'.frames = A.frames → Room kq A' → wpAny (model X.prog X.w) A' (call (.ref f) [.ref a, v]) (fun w' s' => w' = .bool r ∧ ∃ H', Inv X pins σ H' s' ∧ Ex H H') X.xe s := fun A' hfr hrm => by
      have e0 : Env0 X.prog X.w X.K X.mg X.base A' X.stack s H := by
        have e := I.env0
        exact ⟨by rw [hfr, sb.fr]; exact e.frames, e.mod, e.bs, e.bsz, e.funs, e.frf, e.hok, e.bare⟩
      have r2 : Vals [V.ref a, y] [Value.ref a, v] := .cons rfl (.cons ry .nil)
      refine wpAny_call (codeAny_mono (F.run A' X.stack s H ⟨[.ref a, v], []⟩ [.ref a, v] [.ref a, y] _ E hrm e0 (by
        have := hb s [.ref a, v] I.kIn (by simp)
        simpa using this) r2 hsp) fun r s' hq => ?_)
      cases r with
      | error e => exact hp pins σ H s e s' I hq
      | ok fl =>
        cases fl with
        | ret w =>
          obtain ⟨z, H', I', rz, ez, ex⟩ := I.after hq
          subst ez
          cases rz
          exact ⟨rfl, H', I', ex⟩
        | next => exact False.elim hq
        | brk => exact False.elim hq
        | cont => exact False.elim hq
    refine rcG2_of ng (fun _ => ?_) (fun _ => ?_)
    · refine PySem.W.cmp_K (op := .Eq) sb.room.units0 hF I.ok.mod.kin J ht hnf hs hf (wpAny_mono (call A rfl (sb.room.mono (Nat.le_succ _))) (fun w' s' q => ?_) fun _ _ e => e)
      obtain ⟨rfl, q⟩ := q
      exact ⟨rfl, q⟩
    · refine QE.ne_K (sb.room.in1.units0) hF I.ok.mod.kin J ht hnf hs hf hne (ow.cls.cl c hz).hm (wpAny_mono (call A.in1 rfl sb.room.in1) (fun w' s' q => ?_) fun _ _ e => e)
      obtain ⟨rfl, q⟩ := q
      exact ⟨r, rfl, rfl, q⟩
/-- == inside built-ins -/
theorem eqG2W {CX' : CXT} {E : XK} (ow : EqOwn X.prog X.w X.K X.mg X.base CX' Z kq) (hp : Passes CX' X E) : ∀ n, EqG2 X (n + kq + 1) (DqW X.K Z n) := by
  have flat : ∀ {m n : Nat} {A : Around} {pins : List (Addr × Obj)} {s : Shared} {σ : L2.St} {H : Hp} {x y : V} {u v : Value} {w1 w2 : W} {b : Bool}, Inv X pins σ H s → RelV x u → RelV y v → Rep X.K Z H x w1 → Rep X.K Z H y w2 → eqA w1 w2 = some b →
      wpAny (model X.prog X.w) A (eqBool u v) (fun r s' => r = b ∧ ∃ H', Inv X pins σ H' s' ∧ Ex H H') X.xe s := by
    intro m n A pins s σ H x y u v w1 w2 b I rx ry r1 r2 e
    obtain ⟨x', y', e1, e2, rfl⟩ := eqA_some e
    have p1 := r1.at_eq e1
    have p2 := r2.at_eq e2
    subst p1; subst p2
    exact eqAt_V (A := A) (s := s) rx ry (at_flat e1) (at_flat e2) X.prog X.w X.xe _ ⟨rfl, H, I, Ex.refl _⟩
  intro n
  induction n with
  | zero =>
    intro A pins s σ H x y u v b sb I rx ry d
    obtain ⟨w1, w2, r1, r2, e⟩ := d
    exact flat (m := 0) (n := 0) I rx ry r1 r2 e
  | succ n ih =>
    intro A pins s σ H x y u v b sb I rx ry d
    obtain ⟨w1, w2, r1, r2, e⟩ := d
    have self := fun (h : x = y) => eqW_self ow.cls I (n + 1) w1 w2 x b r1 (by rw [h]; exact r2) e
    have ih' : EqG2 X (n + kq + 1) (DqW X.K Z n) := ih
    have sb' : Sub X (n + kq + 1 + 1) A := sb.mono (by omega)
    have refs : ∀ {a a' : Addr}, x = .ref a → y = .ref a' → (wpAny (model X.prog X.w) A (richCompare (opq false) (.ref a) (.ref a')) (fun v s' => v = .bool (nq false b) ∧ ∃ H', Inv X pins σ H' s' ∧ Ex H H') X.xe s) →
        wpAny (model X.prog X.w) A (eqBool u v) (fun r s' => r = b ∧ ∃ H', Inv X pins σ H' s' ∧ Ex H H') X.xe s := by
      intro a a' ex ey h
      subst ex; subst ey
      cases rx; cases ry
      by_cases hab : a = a'
      · subst hab
        have hb := self rfl
        subst hb
        exact SeqAt.EqAt.same (A := A) (s := s) (.ref a) X.prog X.w X.xe _ ⟨rfl, H, I, Ex.refl _⟩
      · refine GQ.eqBool_refG hab (wpAny_mono h (fun r s' q => ?_) fun _ _ x => x)
        obtain ⟨hr', q⟩ := q
        exact ⟨b, hr', rfl, q⟩
    replace e : eqS (eqW n) w1 w2 = some b := e
    unfold eqS at e
    split at e
    · cases id r1 with | lst a1 g1 =>
      cases id r2 with | lst a2 g2 =>
      exact refs rfl rfl (rcG2_list (ng := false) ih' sb' I a1 a2 g1 g2 e)
    · cases id r1 with | tup a1 g1 =>
      cases id r2 with | tup a2 g2 =>
      exact refs rfl rfl (rcG2_tup (ng := false) ih' sb' I a1 a2 g1 g2 e)
    · rename_i c fs
      split at e
      · rename_i hc
        have h := rcG2_ins (ng := false) ow hp (sb.mono (by omega : kq + 1 ≤ n + 1 + kq + 1)) I rx ry r1 r2 hc e
        have hy : (∃ a', y = .ref a') ∨ ∃ z, w2.at = some z := by
          cases r2 with
          | non => exact .inr ⟨_, rfl⟩
          | bl => exact .inr ⟨_, rfl⟩
          | int => exact .inr ⟨_, rfl⟩
          | str => exact .inr ⟨_, rfl⟩
          | ty => unfold eqI at e; cases e
          | _ => exact .inl ⟨_, rfl⟩
        cases id r1 with
        | @ins a _ dx gs _ hz hi hn hr =>
          cases rx
          rcases hy with ⟨a', rfl⟩ | ⟨z, hz'⟩
          · cases ry
            exact refs rfl rfl h
          · have hne : (Value.ref a == v) = false := by
              have := r2.at_eq hz'
              subst this
              cases w2 <;> first | (cases hz'; first | (cases ry; rfl) | (obtain ⟨t, rfl⟩ := ry; rfl)) | (cases hz')
            unfold eqBool
            refine wpAny_holding ?_
            refine wpAny_ite_split (fun q => absurd q (by rw [hne]; exact Bool.false_ne_true)) (fun _ => ?_)
            refine wpAny_bind (wpAny_mono h (fun w' s' hv => ?_) fun _ _ x => x)
            obtain ⟨rfl, q⟩ := hv
            exact wpAny_truthy_bool ⟨rfl, q⟩
      · cases e
    · exact flat (m := 0) (n := 0) I rx ry r1 r2 e

/-! ### the operators -/
/-- lists, tuples, instances -/
def eqT (n : Nat) (a b : W) : Option Bool := match a, b with
  | .lst xs, .lst ys => eqWs (eqW n) xs ys
  | .tup xs, .tup ys => eqWs (eqW n) xs ys
  | .ins c fs, o => if c < 4 then eqI c fs o else none
  | _, _ => none
def rEqT (K : PySem.W.Frag) (Z : Zx) (n : Nat) (ng : Bool) : R2 := fun x y H Q => ∃ w1 w2 r, Rep K Z H x w1 ∧ Rep K Z H y w2 ∧ eqT n w1 w2 = some r ∧ ∀ H', Ex H H' → Q (.bl (nq ng r)) H'
theorem op_eqT {CX' : CXT} {E : XK} (ow : EqOwn X.prog X.w X.K X.mg X.base CX' Z kq) (hp : Passes CX' X E) (n : Nat) (hr : Room (n + kq + 2) X.A) : OpR X (compareOp (opq ng)) (rEqT X.K Z n ng) := by
  intro pins s σ H x y v u Q I rx ry h
  obtain ⟨w1, w2, r, r1, r2, e, q⟩ := h
  have key : wpAny (model X.prog X.w) X.A (richCompare (opq ng) v u) (fun r' s' => r' = .bool (nq ng r) ∧ ∃ H', Inv X pins σ H' s' ∧ Ex H H') X.xe s := by
    have sb : Sub X (n + kq + 1 + 1) X.A := ⟨hr, rfl⟩
    unfold eqT at e
    split at e
    · cases r1 with | lst a1 g1 =>
      cases r2 with | lst a2 g2 =>
      cases rx; cases ry
      exact rcG2_list (eqG2W ow hp n) sb I a1 a2 g1 g2 e
    · cases r1 with | tup a1 g1 =>
      cases r2 with | tup a2 g2 =>
      cases rx; cases ry
      exact rcG2_tup (eqG2W ow hp n) sb I a1 a2 g1 g2 e
    · split at e
      · rename_i hc
        exact rcG2_ins ow hp (sb.mono (by omega)) I rx ry r1 r2 hc e
      · cases e
    · cases e
  have fin : wpAny (model X.prog X.w) X.A (richCompare (opq ng) v u) (EP X pins σ Q) X.xe s := by
    refine wpAny_mono key (fun r' s' z => ?_) fun _ _ x => x
    obtain ⟨rfl, H', I', e'⟩ := z
    exact ⟨.bl (nq ng r), H', I', rfl, q H' e'⟩
  cases ng with
  | false => exact fin
  | true => exact fin
theorem RepP.up {K : PySem.W.Frag} {H0 H : Hp} {v : V} {w : W} (h : RepP K Z H0 H v w) (ex : Ex H0 H) : Rep K Z H v w := by
  cases h with
  | fz h => exact h.mono ex
  | lst h r => exact .lst h (r.mono ex)
  | dK h r => exact .dK (.of h) (r.mono ex)
  | dT h r => exact .dT (.of h) (r.mono ex)
  | ins z h n r => exact .ins z h n (r.mono ex)
/-- two values, by their forms -/
def eqD (n : Nat) (a b : W) : Option Bool := match a, b with
  | .lst xs, .lst ys => eqWs (eqW n) xs ys
  | .tup xs, .tup ys => eqWs (eqW n) xs ys
  | .ins c fs, o => if c < 4 then eqI c fs o else none
  | .int i, .int j => some (decide (i = j))
  | .str i, .str j => some (decide (i = j))
  | .bl i, .bl j => some (decide (i = j))
  | .non, .non => some true
  | .non, .int _ => some false
  | .non, .str _ => some false
  | .non, .bl _ => some false
  | .int _, .non => some false
  | .int _, .str _ => some false
  | .str _, .non => some false
  | .str _, .int _ => some false
  | .bl _, .non => some false
  | _, _ => none
theorem eqD_or {n : Nat} {a b : W} {r : Bool} (h : eqD n a b = some r) : eqT n a b = some r ∨ ∃ x y, a.at = some x ∧ b.at = some y ∧ scal x y = true ∧ r = decide (x = y) := by
  unfold eqD at h
  split at h
  · exact .inl h
  · exact .inl h
  · exact .inl h
  all_goals first
    | (cases h; exact .inr ⟨_, _, rfl, rfl, rfl, by simp⟩)
    | cases h
/-- a == b, a != b -/
def oEqX (ng : Bool) : O2 := fun a b k => (∃ d e, a.pd = some d ∧ b.pd = some e ∧ SeqAt.shaped d = true ∧ SeqAt.shaped e = true ∧ k (.bl (nq ng (PyData.eqv d e)))) ∨ ∃ r, eqD 6 a b = some r ∧ k (.bl (nq ng r))
def rEqX (K : PySem.W.Frag) (Z : Zx) (ng : Bool) : R2 := fun x y H Q => ((if ng then rNeD K else rEqD K) x y H Q ∨ rEqT K Z 6 ng x y H Q) ∨ (if ng then rNe else rEq) x y H Q
theorem opd_eqX {K : PySem.W.Frag} : OpD K Z (rEqX K Z ng) (oEqX ng) := by
  intro H0 H v1 w1 v2 w2 k Q e r1 r2 o f
  rcases o with ⟨d, d', h1, h2, s1, s2, q⟩ | ⟨r, h, q⟩
  · cases ng with
    | false => exact .inl (.inl ⟨d, d', r1.dp e h1, r2.dp e h2, s1, s2, f.same e .bl q⟩)
    | true => exact .inl (.inl ⟨d, d', r1.dp e h1, r2.dp e h2, s1, s2, f.same e .bl q⟩)
  · rcases eqD_or h with h | ⟨x, y, hx, hy, hs, rfl⟩
    · exact .inl (.inr ⟨w1, w2, r, r1.up e, r2.up e, h, fun H' e' => f H0 H' _ _ ⟨Ex.refl _, e', e.trans e', fun a o h n => by rw [n] at h; cases h⟩ .bl q⟩)
    · have e1 := (r1.up e).at_eq hx
      have e2 := (r2.up e).at_eq hy
      subst e1; subst e2
      cases ng with
      | false => exact .inr ⟨hs, f.same e .bl q⟩
      | true => exact .inr ⟨hs, f.same e .bl q⟩
theorem op_eqX {CX' : CXT} {E : XK} (ow : EqOwn X.prog X.w X.K X.mg X.base CX' Z kq) (hp : Passes CX' X E) (hr : Room (kq + 8) X.A) : OpR X (compareOp (opq ng)) (rEqX X.K Z ng) := by
  intro pins s σ H x y v u Q I rx ry h
  rcases h with (h | h) | h
  · have hu : X.A.units + 64 < cLine := by have := hr.un; omega
    cases ng with
    | false => exact op_eqD hu pins s σ H x y v u Q I rx ry h
    | true => exact op_neD hu pins s σ H x y v u Q I rx ry h
  · exact op_eqT ow hp 6 (by rw [show 6 + kq + 2 = kq + 8 by omega]; exact hr) pins s σ H x y v u Q I rx ry h
  · cases ng with
    | false => exact op_eq pins s σ H x y v u Q I rx ry h
    | true => exact op_ne pins s σ H x y v u Q I rx ry h
end
section
variable {X : Cx} {Z : Zx} {E : XS} {CX' : CXT} {kq : Nat} {e a b c : Expr} {da db dc : DE} {pos : Pos}
theorem ptd_eqX {E9 : XK} (ow : EqOwn X.prog X.w X.K X.mg X.base CX' Z kq) (hp : Passes CX' X E9) (hr : Room (kq + 8) X.A) (ha : PD X Z E a da) (hb : PD X Z E b db) : PTD X Z E (.Compare a [.Eq] [b] pos) (dTest (dOp (oEqX false) da db)) := ptd_cmp (op_eqX (ng := false) ow hp hr) opd_eqX ha hb (nomark _)
theorem ptd_neX {E9 : XK} (ow : EqOwn X.prog X.w X.K X.mg X.base CX' Z kq) (hp : Passes CX' X E9) (hr : Room (kq + 8) X.A) (ha : PD X Z E a da) (hb : PD X Z E b db) : PTD X Z E (.Compare a [.NotEq] [b] pos) (dTest (dOp (oEqX true) da db)) := ptd_cmp (op_eqX (ng := true) ow hp hr) opd_eqX ha hb (nomark _)
end
end Y
namespace Y
open PySem L2
open PySem.Spec PyProof.Rows
open Evl (Ex)

/-! ### isinstance -/
def R.ty0 (st : S) : R → Option Ty0
  | .w v => v.ty0
  | .pk i => (getT st i).bind T.ty0
def Ty0.vV (Z : Zx) : Ty0 → V
  | .b n => .ty n
  | .i c => .ref (Z.cls c)
def dIsi (C : Ty0) (d : DE) : DE := fun st k x => d st (fun r st1 => match r.ty0 st1 with
  | some t => k (.w (.bl (isT t C))) st1
  | none => False) x
section
variable {X : Cx} {Z : Zx} {E : XS} {e o a b ce : Expr} {es : List Expr} {da db dd : DE} {dw : DW} {pos pos' apos p : Pos} {C : Ty0}
theorem RepT.tyx {K : PySem.W.Frag} {H0 H F : Hp} {G Gt : Fp} (ok : ClsOk K Z) (wd : Wd H0 F G H) (sub : ∀ q ∈ Gt, q ∈ G) {v : V} {t : T} {ty : Ty0} (h : RepT K Z H0 v t Gt) (e : t.ty0 = some ty) : TyX K H v (ty.v Z) ∧ ty.ok Z := by
  cases h with
  | fz h => exact (h.mono wd.ex).tyx ok e
  | lst r => cases e; exact ⟨.base (.lst (wd.ow (_, _) (sub _ List.mem_cons_self))), Ty0.ok_b (by decide)⟩
  | dK r => cases e; exact ⟨.base (.dK (wd.ow (_, _) (sub _ List.mem_cons_self))), Ty0.ok_b (by decide)⟩
  | dT r => cases e; exact ⟨.base (.dT (wd.ow (_, _) (sub _ List.mem_cons_self))), Ty0.ok_b (by decide)⟩
  | ins z n r =>
    cases e
    obtain ⟨c1, c2, c3, c4, c5, _⟩ := ok.cl _ z
    exact ⟨.base (.ins (wd.ow (_, _) (sub _ List.mem_cons_self)) c1 c2 c3 c4 c5), z⟩
  | wo _ _ => cases e
  | dR _ => cases e
  | dd _ => cases e
theorem ClsV.of (C : Ty0) : ClsV (C.vV Z) (C.v Z) := by
  cases C with
  | b n => exact .ty n
  | i c => exact .own _
theorem pd_isi (ok : ClsOk X.K Z) (io : IsOk X.K Z C) (hg : Gl X "isinstance") (hm : X.mg "isinstance" = none) (he : PD X Z E e dd) (hc : PE X ce (tC (C.vV Z)))
    (hs1 : starEach [e, ce] X.env = (false, eval e X.env) :: starEach [ce] X.env := by rfl) (hs2 : starEach [ce] X.env = (false, eval ce X.env) :: starEach [] X.env := by rfl)
    (hpl : (backTo pos (starEach [ce] X.env)).any (·.1) = false := by rfl) : PD X Z E (.Call (.Name "isinstance" p) [e, ce] [] pos) (dIsi C dd) := by
  refine pe_weak (pe_callB call_isi hg hm PyProof.Rows.boot_isinstance (pa_cons he (pa_cons hc pa_nil hs2) hs1) (by decide) (by decide) hs1 hpl) fun σ H Q q => ?_
  obtain ⟨H0, F, G, pv, st, k, kx, wd, ss, hd, hk, hx⟩ := q
  refine tE_seq wd ss hx hd fun H1 G1 H1' st1 v r e1 wd1 ss1 rr k1 => ?_
  show rIsi X.K [v, C.vV Z] H1' Q
  cases q : r.ty0 st1 with
  | none => rw [q] at k1; exact k1.elim
  | some t =>
    rw [q] at k1
    have key : TyX X.K H1' v (t.v Z) ∧ t.ok Z := by
      cases rr with
      | w h => exact (h.mono wd1.ex).tyx ok q
      | pk hv =>
        rename_i i
        obtain ⟨t0, g1, g2⟩ := Option.bind_eq_some_iff.mp (show (getT st1 i).bind T.ty0 = some t from q)
        obtain ⟨Gx, A, B, h1, h2, _⟩ := ss1.own g1 hv
        exact h1.tyx ok wd1 (fun q hq => by rw [h2]; simp [hq]) g2
    refine ⟨v, C.vV Z, t.v Z, C.v Z, isT t C, rfl, ClsV.of C, key.1, ?_, hk _ _ _ _ _ _ e1 wd1 ss1 (.w .bl) k1⟩
    cases t with
    | b n => exact io.2 n key.2
    | i c => exact io.1 c key.2
end

/-! ### x.f = value, x an own name -/
section
variable {K : PySem.W.Frag} {Z : Zx} {H0 H F : Hp}
theorem RepTs.snoc {v : V} {t : T} {Gv : Fp} (r : RepT K Z H0 v t Gv) : ∀ {vs ts G}, RepTs K Z H0 vs ts G → RepTs K Z H0 (vs ++ [v]) (ts ++ [t]) (G ++ Gv)
  | _, _, _, .nil => by
    have := RepTs.cons r (RepTs.nil (K := K) (Z := Z) (H := H0))
    rw [List.append_nil] at this
    exact this
  | _, _, _, .cons (G1 := G1) (G2 := G2) h s => by
    have := RepTs.cons h (RepTs.snoc r s)
    rw [← List.append_assoc] at this
    exact this
theorem RepTs.setAt {v : V} {t : T} {Gv : Fp} (r : RepT K Z H0 v t Gv) : ∀ {vs ts G} {j : Nat}, RepTs K Z H0 vs ts G → j < ts.length → ∃ G' Gd, RepTs K Z H0 (vs.set j v) (ts.set j t) G' ∧ (Gv ++ G).Perm (G' ++ Gd)
  | _, _, _, j, .nil, h => absurd h (Nat.not_lt_zero _)
  | _, _, _, 0, .cons (G1 := G1) (G2 := G2) h s, _ => ⟨Gv ++ G2, G1, .cons r s, by
      rw [List.append_assoc]
      exact List.Perm.append_left Gv List.perm_append_comm⟩
  | _, _, _, j + 1, .cons (G1 := G1) (G2 := G2) h s, hl => by
    obtain ⟨G', Gd, h1, h2⟩ := RepTs.setAt r s (Nat.lt_of_succ_lt_succ hl)
    refine ⟨G1 ++ G', Gd, .cons h h1, ?_⟩
    have p1 : (Gv ++ (G1 ++ G2)).Perm (G1 ++ (Gv ++ G2)) := by
      rw [← List.append_assoc, ← List.append_assoc]
      exact List.Perm.append_right G2 List.perm_append_comm
    refine p1.trans ?_
    rw [List.append_assoc]
    exact List.Perm.append_left G1 h2
theorem perm3 {α : Type} (a b c : List α) : (a ++ (b ++ c)).Perm (b ++ (a ++ c)) := by
  have := (List.perm_append_comm (l₁ := a) (l₂ := b)).append_right c
  rwa [List.append_assoc, List.append_assoc] at this
theorem putF_new {f : Str} {y : V} : ∀ {fs : List (Str × V)}, f ∉ fs.map (·.1) → putF f y fs = fs ++ [(f, y)]
  | [], _ => rfl
  | (g, x) :: fs, h => by
    rw [List.map_cons, List.mem_cons, not_or] at h
    unfold putF
    rw [if_neg (fun e => h.1 e.symm), putF_new h.2]
    rfl
theorem putF_at {f : Str} {y : V} : ∀ {fs : List (Str × V)} {j : Nat}, (fs.map (·.1)).Nodup → (fs.map (·.1))[j]? = some f → (putF f y fs).map (·.1) = fs.map (·.1) ∧ (putF f y fs).map (·.2) = (fs.map (·.2)).set j y
  | [], j, _, h => by simp at h
  | (g, x) :: fs, 0, _, h => by
    simp at h; subst h
    unfold putF
    rw [if_pos rfl]
    exact ⟨rfl, rfl⟩
  | (g, x) :: fs, j + 1, nd, h => by
    rw [List.map_cons] at nd h
    obtain ⟨n1, n2⟩ := List.nodup_cons.mp nd
    have h' : (fs.map (·.1))[j]? = some f := by simpa using h
    have ne : ¬ g = f := fun e => n1 (by rw [e]; exact List.mem_of_getElem? h')
    obtain ⟨a, b⟩ := putF_at (y := y) n2 h'
    unfold putF
    rw [if_neg ne]
    refine ⟨?_, ?_⟩
    · rw [List.map_cons, List.map_cons, a]
    · rw [List.map_cons, List.map_cons, b]; rfl
theorem sts_get {pv : List V} {σ : L2.St} {st : S} {G : Fp} {i : Nat} {t : T} (ss : Sts K Z H0 pv σ st G) (h : getT st i = some t) : ∃ v, σ[i]? = some (some v) := by
  unfold getT at h
  cases q : at' st i with
  | un => rw [q] at h; cases h
  | fr _ _ _ _ _ _ => rw [q] at h; cases h
  | lo t0 => obtain ⟨v, _, _, _, h1, _⟩ := ss.lo_at q; exact ⟨v, h1⟩
  | mp k t0 => obtain ⟨v, _, _, _, h1, _⟩ := ss.mp_at q; exact ⟨v, h1⟩
end
section
variable {X : Cx} {Z : Zx} {E : XS} {v : Expr} {dw : DW} {pos pos' p : Pos} {C : Addr} {f x : Str} {cid i j : Nat}
theorem z_fsto (hN : X.N[i]? = some x) (hC : Z.cls cid = C) (cl : Cls X.K C) (hn : NoAttr X.K C f) (hv : PVD X Z E v dw) (hj : (fldN cid)[j]? = some f := by rfl)
    (hvis : Vis X.env.scope x := by first | exact Or.inl rfl | exact Or.inr (Or.inl rfl) | exact Or.inr (Or.inr rfl)) (hd : (x == ("__debug__" : Str)) = false := by decide)
    (hcd : (x == ("__classdict__" : Str)) = false := by decide) (hs : swapsWith v (some (.Attribute (.Name x p) f pos')) pos.line X.env = pure false := by rfl) :
    PZ X Z E (.Assign [.Attribute (.Name x p) f pos'] v pos) (dFSto i cid j dw) := by
  subst hC
  refine ps_weak (ps_fld (pe_var hN hvis hd hcd) hv hs) fun D σ H q => ?_
  obtain ⟨H0, F, G, pv, st, DD, wd, ss, hd, ha⟩ := q
  refine tW_seq wd ss ha.ex.at hd fun H1 Gv G1 H1' st1 y t e1 wd1 rt ss1 k1 => ?_
  cases q : getT st1 i with
  | none => rw [q] at k1; exact k1.elim
  | some t0 =>
    rw [q] at k1
    cases t0 with
    | ins c ts =>
      obtain ⟨rfl, hjl, k1⟩ := k1
      obtain ⟨v0, hv0⟩ := sts_get ss1 q
      refine ⟨v0, hv0, ?_⟩
      obtain ⟨Gx, A, B, h1, h2, h3⟩ := ss1.own q hv0
      cases h1 with
      | @ins a _ dx fs _ Gf hz n r =>
        subst h2
        have hi : H1' a = some (.ins (Z.cls c) dx fs) := wd1.ow (a, _) (by simp)
        have hlf : fs.length ≤ 3 := by
          have := congrArg List.length n
          rw [List.length_map, List.length_take] at this
          have := fld_short c
          omega
        refine ⟨a, _, dx, fs, rfl, hi, cl, hn, by omega, ?_⟩
        -- the world behind the write
        have nd : (fs.map (·.1)).Nodup := by rw [n]; exact (fld_nd c).sublist (List.take_sublist _ _)
        have wd2 : Wd H1 F ((Gv ++ A) ++ [(a, HO.ins (Z.cls c) dx fs)] ++ (Gf ++ B)) H1' := by
          have e : (Gv ++ A) ++ [(a, HO.ins (Z.cls c) dx fs)] ++ (Gf ++ B) = Gv ++ (A ++ (a, HO.ins (Z.cls c) dx fs) :: Gf ++ B) := by simp
          rw [e]; exact wd1
        have wd3 : Wd H1 F ((Gv ++ A) ++ [(a, HO.ins (Z.cls c) dx (putF f y fs))] ++ (Gf ++ B)) (upd H1' a (.ins (Z.cls c) dx (putF f y fs))) := wd2.write
        by_cases hlt : j < ts.length
        · have hname : (fs.map (·.1))[j]? = some f := by rw [n, List.getElem?_take_of_lt hlt]; exact hj
          obtain ⟨p1, p2⟩ := putF_at (y := y) nd hname
          obtain ⟨G', Gd, r2, pm⟩ := RepTs.setAt rt r hlt
          have rN : RepT X.K Z H1 (.ref a) (.ins c (putT ts j t)) ((a, .ins (Z.cls c) dx (putF f y fs)) :: G') := by
            have e : putT ts j t = ts.set j t := by unfold putT; rw [if_pos hlt]
            rw [e]
            refine .ins hz ?_ ?_
            · rw [p1, n, List.length_set]
            · rw [p2]; exact r2
          refine ha.nx _ _ _ _ _ e1 (wd3.sub (Gd := Gd) ?_) (h3 H1 _ _ (Ex.refl _) rN) k1
          have a1 : ((Gv ++ A) ++ [(a, HO.ins (Z.cls c) dx (putF f y fs))] ++ (Gf ++ B)).Perm ((A ++ [(a, HO.ins (Z.cls c) dx (putF f y fs))]) ++ ((Gv ++ Gf) ++ B)) := by
            have : ((Gv ++ A) ++ [(a, HO.ins (Z.cls c) dx (putF f y fs))] ++ (Gf ++ B)) = Gv ++ ((A ++ [(a, HO.ins (Z.cls c) dx (putF f y fs))]) ++ (Gf ++ B)) := by simp
            rw [this]
            have e2 : (A ++ [(a, HO.ins (Z.cls c) dx (putF f y fs))]) ++ ((Gv ++ Gf) ++ B) = (A ++ [(a, HO.ins (Z.cls c) dx (putF f y fs))]) ++ (Gv ++ (Gf ++ B)) := by simp
            rw [e2]
            exact perm3 _ _ _
          refine a1.trans ?_
          have a2 : ((A ++ [(a, HO.ins (Z.cls c) dx (putF f y fs))]) ++ ((Gv ++ Gf) ++ B)).Perm ((A ++ [(a, HO.ins (Z.cls c) dx (putF f y fs))]) ++ ((G' ++ Gd) ++ B)) := List.Perm.append_left _ (List.Perm.append_right B pm)
          refine a2.trans ?_
          have e3 : A ++ (a, HO.ins (Z.cls c) dx (putF f y fs)) :: G' ++ B ++ Gd = (A ++ [(a, HO.ins (Z.cls c) dx (putF f y fs))]) ++ (G' ++ (B ++ Gd)) := by simp
          have e4 : (A ++ [(a, HO.ins (Z.cls c) dx (putF f y fs))]) ++ ((G' ++ Gd) ++ B) = (A ++ [(a, HO.ins (Z.cls c) dx (putF f y fs))]) ++ (G' ++ (Gd ++ B)) := by simp
          rw [e3, e4]
          exact List.Perm.append_left _ (List.Perm.append_left _ List.perm_append_comm)
        · have hjl' : j = ts.length := by omega
          subst hjl'
          have hfl : fs.map (·.1) = (fldN c).take ts.length := n
          have hlen : ts.length < (fldN c).length := by
            rcases Nat.lt_or_ge ts.length (fldN c).length with q | q
            · exact q
            · rw [List.getElem?_eq_none q] at hj; cases hj
          have hnew : f ∉ fs.map (·.1) := fun hm => by
            rw [hfl] at hm
            obtain ⟨m, hm1, hm2⟩ := List.getElem_of_mem hm
            rw [List.length_take] at hm1
            have g1 : (fldN c)[m]? = some f := by
              rw [← hm2, List.getElem_take]
              exact List.getElem?_eq_getElem _
            have g2 := (List.getElem?_inj (by omega : m < (fldN c).length) (fld_nd c)).mp (g1.trans hj.symm)
            omega
          have pe := putF_new (y := y) hnew
          have rN : RepT X.K Z H1 (.ref a) (.ins c (putT ts ts.length t)) ((a, .ins (Z.cls c) dx (putF f y fs)) :: (Gf ++ Gv)) := by
            have e : putT ts ts.length t = ts ++ [t] := by unfold putT; rw [if_neg (Nat.lt_irrefl _)]
            rw [e, pe]
            refine .ins hz ?_ ?_
            · rw [List.map_append, hfl, List.length_append]
              show _ ++ [f] = (fldN c).take (ts.length + 1)
              rw [List.take_add_one, hj]
              rfl
            · rw [List.map_append]; exact RepTs.snoc rt r
          refine ha.nx _ _ _ _ _ e1 (wd3.perm ?_) (h3 H1 _ _ (Ex.refl _) rN) k1
          have e2 : A ++ (a, HO.ins (Z.cls c) dx (putF f y fs)) :: (Gf ++ Gv) ++ B = (A ++ [(a, HO.ins (Z.cls c) dx (putF f y fs))] ++ Gf) ++ (Gv ++ B) := by simp
          have e3 : ((Gv ++ A) ++ [(a, HO.ins (Z.cls c) dx (putF f y fs))] ++ (Gf ++ B)) = Gv ++ ((A ++ [(a, HO.ins (Z.cls c) dx (putF f y fs))] ++ Gf) ++ B) := by simp
          rw [e2, e3]
          exact (perm3 _ _ _).symm
    | _ => exact k1.elim
end
end Y
namespace Y
open PySem L2
open PySem.Spec PyProof.Rows
open He (Fa DefD FnW fnW frG asD eqO eqO_ok ga ma fAd)

/-! ### the head's facts, any -/
abbrev Ck := PySem.W.Frag → Bool
abbrev AlY : Type := Bool × List FnW
def obsY (fa : List Ck) (fn : List DefD) (K : PySem.W.Frag) : AlY := ((fa.all fun f => f K) && fn.all fun d => d.ok K, fn.map fun d => fnW K d.at_)
def valY (fn : List DefD) : AlY := (true, fn.map DefD.val)
def SaysY (fa : List Ck) (fn : List DefD) (K : PySem.W.Frag) : Prop := obsY fa fn K = valY fn
section
variable {fa : List Ck} {fn : List DefD} {K : PySem.W.Frag}
theorem SaysY.fact (c : SaysY fa fn K) (i : Nat) {f : Ck} (h : fa[i]? = some f := by rfl) : f K = true := by
  have c1 := (He.ba (show ((fa.all fun f => f K) && fn.all fun d => d.ok K) = true from congrArg (fun z : AlY => z.1) c)).1
  exact List.all_eq_true.mp c1 f (List.mem_of_getElem? h)
theorem SaysY.def_ (c : SaysY fa fn K) (i : Nat) {d : DefD} (h : fn[i]? = some d := by rfl) : ∃ fd, FunD K d.name d.qual d.params d.body d.scope (d.dvs K) (d.kws K) (fAd K d.at_) fd := by
  have c2 := (He.ba (show ((fa.all fun f => f K) && fn.all fun d => d.ok K) = true from congrArg (fun z : AlY => z.1) c)).2
  have e : fn.map (fun d => fnW K d.at_) = fn.map DefD.val := congrArg (fun z : AlY => z.2) c
  have e2 : (fn.map fun d => fnW K d.at_)[i]? = (fn.map DefD.val)[i]? := by rw [e]
  rw [List.getElem?_map, List.getElem?_map, h] at e2
  exact DefD.funD (Option.some.inj e2) (List.all_eq_true.mp c2 d (List.mem_of_getElem? h))
end

/-! ### own classes -/
/-- hs: the classes whose instances are met; xs: the exceptions -/
def zxL (hs xs : List (Nat × Str)) (K : PySem.W.Frag) : Zx := ⟨fun c => match (hs ++ xs).lookup c with
  | some x => ga K x
  | none => 0, fun c => (hs.lookup c).isSome, [], fun _ => 0⟩
def insB (K : PySem.W.Frag) (x : Str) : Bool := (Fa.cls x).ok K && (eqO (PySem.W.findIn K (.ref (ga K x)) "__class__") (some (some (.builtin "object.__class__"))) &&
  (eqO (PySem.W.specialIn K (.builtin "object.__class__") "__get__") (some (some (.builtin "getset_descriptor.__get__"))) && (decide (PySem.W.takesIn K (.builtin "object.__class__") = some true) && (decide (PySem.W.mroIn K (ga K x) (.type "object") = some true) && decide (PySem.W.kitOne K (.ref (ga K x)) (.ref (ga K x)) = some true)))))
theorem insB_ok {K : PySem.W.Frag} {x : Str} (h : insB K x = true) : C8.InsC K (ga K x) := by
  obtain ⟨h1, h⟩ := He.ba h
  obtain ⟨h2, h⟩ := He.ba h
  obtain ⟨h3, h⟩ := He.ba h
  obtain ⟨h4, h⟩ := He.ba h
  obtain ⟨h5, h6⟩ := He.ba h
  exact ⟨He.cls_ok h1, eqO_ok h2, eqO_ok h3, of_decide_eq_true h4, of_decide_eq_true h5, of_decide_eq_true h6⟩
theorem lookup_mem {β : Type} {l : List (Nat × β)} {c : Nat} {x : β} (h : l.lookup c = some x) : (c, x) ∈ l := by
  induction l with
  | nil => cases h
  | cons p l ih =>
    rw [List.lookup_cons] at h
    cases q : (c == p.1) with
    | true => rw [q] at h; cases h; rw [eq_of_beq q]; exact List.mem_cons_self
    | false => rw [q] at h; exact List.mem_cons_of_mem _ (ih h)
theorem lookup_app {β : Type} {l m : List (Nat × β)} {c : Nat} {x : β} (h : l.lookup c = some x) : (l ++ m).lookup c = some x := by
  induction l with
  | nil => cases h
  | cons p l ih =>
    rw [List.cons_append, List.lookup_cons]
    rw [List.lookup_cons] at h
    cases q : (c == p.1) with
    | true => rw [q] at h; exact h
    | false => rw [q] at h; exact ih h
def clsB (hs : List (Nat × Str)) (K : PySem.W.Frag) : Bool := hs.all fun p => insB K p.2 && ((hs.all fun q => (p.1 == q.1) || !(ga K p.2 == ga K q.2)) && ((hs.all fun q => PySem.W.notFirst K (ga K p.2) (.ref (ga K q.2))) && bases.all fun n => PySem.W.notFirst K (ga K p.2) (.type n)))
theorem has_at {hs xs : List (Nat × Str)} {K : PySem.W.Frag} {c : Nat} (h : (zxL hs xs K).has c = true) : ∃ x, (c, x) ∈ hs ∧ (zxL hs xs K).cls c = ga K x := by
  obtain ⟨x, hx⟩ := Option.isSome_iff_exists.mp h
  refine ⟨x, lookup_mem hx, ?_⟩
  show (match (hs ++ xs).lookup c with | some x => ga K x | none => 0) = ga K x
  rw [lookup_app hx]
theorem clsB_ok {hs xs : List (Nat × Str)} {K : PySem.W.Frag} (h : clsB hs K = true) : ClsOk K (zxL hs xs K) := by
  have key : ∀ p ∈ hs, insB K p.2 = true ∧ (∀ q ∈ hs, p.1 = q.1 ∨ ga K p.2 ≠ ga K q.2) ∧ (∀ q ∈ hs, PySem.W.notFirst K (ga K p.2) (.ref (ga K q.2)) = true) ∧ ∀ n ∈ bases, PySem.W.notFirst K (ga K p.2) (.type n) = true := fun p hp => by
    obtain ⟨h1, h2⟩ := He.ba (List.all_eq_true.mp h p hp)
    obtain ⟨h2, h3⟩ := He.ba h2
    obtain ⟨h3, h4⟩ := He.ba h3
    refine ⟨h1, fun q hq => ?_, fun q hq => List.all_eq_true.mp h3 q hq, fun n hn => List.all_eq_true.mp h4 n hn⟩
    rcases Bool.or_eq_true_iff.mp (List.all_eq_true.mp h2 q hq) with e | e
    · exact .inl (eq_of_beq e)
    · exact .inr fun z => by rw [z] at e; simp at e
  refine ⟨fun c hc => ?_, fun c c' hc hc' e => ?_, fun c c' hc hc' => ?_, fun c n hc hn => ?_⟩
  · obtain ⟨x, hx, e⟩ := has_at hc
    rw [e]; exact insB_ok (key _ hx).1
  · obtain ⟨x, hx, e1⟩ := has_at hc
    obtain ⟨y, hy, e2⟩ := has_at hc'
    rw [e1, e2] at e
    rcases (key _ hx).2.1 _ hy with z | z
    · exact z
    · exact absurd e z
  · obtain ⟨x, hx, e1⟩ := has_at hc
    obtain ⟨y, hy, e2⟩ := has_at hc'
    rw [e1, e2]; exact (key _ hx).2.2.1 _ hy
  · obtain ⟨x, hx, e1⟩ := has_at hc
    rw [e1]; exact (key _ hx).2.2.2 n hn
def isB (hs : List (Nat × Str)) (C : Ty0) (K : PySem.W.Frag) : Bool := (hs.all fun p => decide (PySem.W.kitOne K (.ref (ga K p.2)) (C.v (zxL hs [] K)) = some (isT (.i p.1) C))) && bases.all fun n => decide (PySem.W.kitOne K (.type n) (C.v (zxL hs [] K)) = some (isT (.b n) C))
theorem isB_ok {hs xs : List (Nat × Str)} {C : Ty0} {K : PySem.W.Frag} (hc : match C with | .i c => (hs.lookup c).isSome = true | .b _ => True) (h : isB hs C K = true) : IsOk K (zxL hs xs K) C := by
  have e : C.v (zxL hs [] K) = C.v (zxL hs xs K) := by
    cases C with
    | b n => rfl
    | i c =>
      obtain ⟨x, hx⟩ := Option.isSome_iff_exists.mp hc
      show Value.ref (match (hs ++ []).lookup c with | some x => ga K x | none => 0) = Value.ref (match (hs ++ xs).lookup c with | some x => ga K x | none => 0)
      rw [lookup_app hx, lookup_app hx]
  obtain ⟨h1, h2⟩ := He.ba h
  rw [e] at h1 h2
  refine ⟨fun c hc => ?_, fun n hn => of_decide_eq_true (List.all_eq_true.mp h2 n hn)⟩
  obtain ⟨x, hx, e1⟩ := has_at hc
  rw [e1]
  exact of_decide_eq_true (List.all_eq_true.mp h1 _ hx)
def neB (x : Str) (K : PySem.W.Frag) : Bool := eqO (PySem.W.findIn K (.ref (ga K x)) "__ne__") (some (some (.builtin "object.__ne__")))
theorem neB_ok {x : Str} {K : PySem.W.Frag} (h : neB x K = true) : PySem.W.findIn K (.ref (ga K x)) "__ne__" = some (some (.builtin "object.__ne__")) := eqO_ok h
/-! ### constants of the module -/
end Y
namespace Y
open PySem L2
open PySem.Spec PyProof.Rows
open Evl (Ex)

/-! ### a law's end -/
def c_law : Ct := fun ts k _ => ∃ ns : List Int, ts = [.fz (.scr ns)] ∧ ns.length ≤ 63 ∧ k (.fz (.bl true)) ts
theorem noCX {P : Program} (w : World) (H : Hp) (s : Shared) (e : Value) (s' : Shared) (h : L2.CX P w [] H s (fun _ _ _ => False) e s') : False := by
  obtain ⟨_, _, _, _, _, _, _, _, _, _, _, _, h⟩ := h
  exact h
structure EqNo (K : PySem.W.Frag) (Z : Zx) : Prop where
  cls : ClsOk K Z
theorem fd_uniq {K : PySem.W.Frag} {x x' q q' : Str} {a a' : Arguments} {b b' : List Stmt} {s s' : Scope} {d d' : List V} {k k' : List (Str × V)} {f : Addr} {fd fd' : FuncData} (F : FunD K x q a b s d k f fd) (F' : FunD K x' q' a' b' s' d' k' f fd') : fd = fd' := by
  obtain ⟨_, _, _, _, _, _, _, _, _, _, _, l, _⟩ := F.ex
  obtain ⟨_, _, _, _, _, _, _, _, _, _, _, l', _⟩ := F'.ex
  rw [l] at l'
  cases l'
  rfl
/-- within a comprehension nothing is let out -/
theorem passL {P : Program} {w : World} {X : Cx} : Passes (L2.CX P w) X E0 := fun _ _ _ _ _ _ _ h => by
  obtain ⟨_, _, _, _, _, _, _, _, _, _, _, _, h⟩ := h
  exact h.elim
theorem passLS {P : Program} {w : World} {X : Cx} : PassesS (L2.CX P w) X E0s := fun σ pins H s e s' I h => by
  obtain ⟨_, _, _, _, _, _, _, _, _, _, _, _, h⟩ := h
  exact h.elim
end Y
namespace Y
open PySem L2
open PySem.Spec PyProof.Rows
open Evl (Ex)

/-! ### the truth of an instance by its own __len__ -/
/-! ### str(x), repr(x), len(x) of an instance by its own def -/
section
variable {X : Cx} {CX' : CXT} {E : XK} {n : Nat} {f C : Addr} {fd : FuncData} {sp : Sp} {ps : List Str}
end

/-! ### on data: a def of the instance alone, its answer taken by g -/
section
variable {X : Cx} {Z : Zx} {E : XS} {CX' : CXT} {e : Expr} {dd : DE} {pos p : Pos} {c : Ct} {n cid : Nat} {f C : Addr} {fd : FuncData} {x : Str}
end
end Y
namespace Y
open PySem L2
open PySem.Spec PyProof.Rows
open Evl (Ex)

/-! ### texts -/
section
variable {K : PySem.W.Frag} {Z : Zx}
theorem RepPs.one {H0 H : Hp} {vs : List V} {w : W} (h : RepPs K Z H0 H vs [w]) : ∃ v, vs = [v] ∧ RepP K Z H0 H v w := by
  cases h with
  | cons h t => cases t; exact ⟨_, rfl, h⟩
end
/-- {x} of an f-string -/
def dFmt (d : DE) : DE := fun st k x => d st (fun r st1 => match r with
  | .w (.str s) => s.length ≤ sizeLine ∧ k (.w (.str s)) st1
  | .w (.int i) => i.natAbs.log2 < 1920 ∧ k (.w (.str (toString i))) st1
  | _ => False) x
/-- f'..': the parts one behind the other -/
def dJn : List DE → Str → DE
  | [], acc => fun st k _ => k (.w (.str acc)) st
  | d :: ds, acc => fun st k x => d st (fun r st1 => match r with
    | .w (.str s) => (acc ++ s).length ≤ sizeLine ∧ dJn ds (acc ++ s) st1 k x
    | _ => False) x
section
variable {X : Cx} {Z : Zx} {E : XS} {e : Expr} {es : List Expr} {dd : DE} {ds : List DE} {pos p : Pos}
theorem pd_fmt (he : PD X Z E e dd) : PD X Z E (.FormattedValue e (-1) none pos) (dFmt dd) := by
  refine pe_weak (pe_fmt he) fun σ H Q q => ?_
  obtain ⟨H0, F, G, pv, st, k, kx, wd, ss, hd, hk, hx⟩ := q
  refine tE_seq wd ss hx hd fun H1 G1 H1' st1 v r e1 wd1 ss1 rr k1 => ?_
  split at k1
  · cases rr with | w rv => cases rv; exact .inl ⟨_, rfl, k1.1, hk _ _ _ _ _ _ e1 wd1 ss1 (.w .str) k1.2⟩
  · cases rr with | w rv => cases rv; exact .inr ⟨_, rfl, k1.1, hk _ _ _ _ _ _ e1 wd1 ss1 (.w .str) k1.2⟩
  · exact k1.elim
inductive PJD (X : Cx) (Z : Zx) (E : XS) : List Expr → List DE → Prop where
  | nil : PJD X Z E [] []
  | cons {e : Expr} {d : DE} {es : List Expr} {ds : List DE} (h : PD X Z E e d) (r : PJD X Z E es ds) : PJD X Z E (e :: es) (d :: ds)
theorem PJD.pj (h : PJD X Z E es ds) : PJ X es (ds.map fun d => tE X.K Z E d) := by
  induction h with
  | nil => exact .nil
  | cons h r ih => exact .cons h ih
theorem js_ok {K : PySem.W.Frag} {σ : L2.St} {F : Hp} {pv : List V} {kx : KX} {Q : VK} : ∀ (ds : List DE) {acc : Str} {H0 H : Hp} {G : Fp} {st : S} {k : R → S → Prop}, Wd H0 F G H → Sts K Z H0 pv σ st G → AccXe K Z E F pv σ H0 kx → dJn ds acc st k kx → Acc K Z F pv σ H0 k Q →
    tJs (ds.map fun d => tE K Z E d) acc σ H fun out H1 => Q (.str out) H1
  | [], acc, H0, H, G, st, k, wd, ss, hx, hd, hk => hk _ _ _ _ _ _ (Ex.refl _) wd ss (.w .str) hd
  | d :: ds, acc, H0, H, G, st, k, wd, ss, hx, hd, hk => by
    refine tE_seq wd ss hx hd fun H1 G1 H1' st1 v r e1 wd1 ss1 rr k1 => ?_
    split at k1
    · cases rr with
      | w rv =>
        cases rv
        exact ⟨_, rfl, k1.1, js_ok ds wd1 ss1 (hx.up e1) k1.2 (hk.up e1)⟩
    · exact k1.elim
theorem pd_joined {e1 e2 : Expr} (h : PJD X Z E (e1 :: e2 :: es) ds) : PD X Z E (.JoinedStr (e1 :: e2 :: es) pos) (dJn ds Str.empty) := by
  refine pe_weak (pe_joined h.pj) fun σ H Q q => ?_
  obtain ⟨H0, F, G, pv, st, k, kx, wd, ss, hd, hk, hx⟩ := q
  exact js_ok ds wd ss hx hd hk
theorem pd_joined1 (h : PD X Z E e dd) : PD X Z E (.JoinedStr [e] pos) dd := pe_joined1 h
end
end Y
namespace QE
open PySem PySem.SeqAt
open AutoSeq1 (wpAny_loadPart')
open MeetsSeq MeetsSeq2 MeetsSeq3 SeqRoads2
open GQ (FinOf call_here eqBool_refG)
section
variable {prog : Program} {w : World} {A : Around} {R : Result → Shared → Prop}
/-- at each turn the list is read anew: N items; the i-th is x or not, as e says; P i: whether the turn is reached -/
def ListX (prog : Program) (w : World) (A : Around) (E : Value → Shared → Prop) (l : Addr) (x : Value) (N : Nat) (e : Nat → Bool) (P : Nat → Prop) (I : Shared → Prop) : Prop :=
  ∀ i s, I s → ∃ (items : Array Value) (n : Nat), s.heap.get? l = some { cls := .type "list", data := .seq items n } ∧ items.size = N ∧
    (P i → ∀ (h1 : i < items.size), wpAny (model prog w) A.in1 (eqBool items[i] x) (fun r s' => r = e i ∧ I s') E s)
theorem any_of {N i : Nat} {e : Nat → Bool} (hi : i < N) (h : e i = true) : (List.range N).any e = true := List.any_eq_true.mpr ⟨i, List.mem_range.mpr hi, h⟩
theorem any_no {N : Nat} {e : Nat → Bool} (h : ∀ j, j < N → e j = false) : (List.range N).any e = false := by
  cases q : (List.range N).any e with
  | false => rfl
  | true =>
    obtain ⟨j, hj, h2⟩ := List.any_eq_true.mp q
    rw [h j (List.mem_range.mp hj)] at h2; cases h2
theorem contains_loopJ (l : Addr) (x : Value) (N : Nat) (e : Nat → Bool) (I : Shared → Prop) (hl : ListX prog w A (fun e s' => R (.error e) s') l x N e (fun i => ∀ j, j < i → e j = false) I)
    (fin : ∀ s, I s → R (.ok (.ret (.bool ((List.range N).any e)))) s) (k : Nat) :
    ∀ i : Nat, N - i = k → i ≤ N → (∀ j, j < i → e j = false) → ∀ s, I s →
      wpAny (model prog w) A.in1 (Builtin.«list.__contains__.loop» ⟨[.ref l, x, rawInt i], []⟩) (FinOf prog w A R) (fun e s' => R (.error e) s') s := by
  induction k with
  | zero =>
    intro i hk hi hp s h
    obtain ⟨items, n, hl1, hs1, _⟩ := hl i _ h
    have hi' : i = N := by omega
    have hR := fin s h
    rw [any_no (hi' ▸ hp)] at hR
    obtain ⟨hp, g, d, tk, os⟩ := s
    wp_walk using wpAny_loadPart' hl1
    have hi1 : items[((i : Nat) : Int).toNat]? = none := by simp; omega
    rw [hi1]
    wp_walk
    exact hR
  | succ k ih =>
    intro i hk hi hp s h
    obtain ⟨items, n, hl1, hs1, turn⟩ := hl i _ h
    have hlt : i < items.size := by omega
    have ht := turn hp hlt
    obtain ⟨hp0, g, d, tk, os⟩ := s
    wp_walk using wpAny_loadPart' hl1
    have hi1 : items[((i : Nat) : Int).toNat]? = some items[i] := by simp [hlt]
    have hc : ((i : Int) + 1) = ((i + 1 : Nat) : Int) := by omega
    rw [hi1]
    refine wpAny_bind (wpAny_mono ht (fun r s2 h2 => ?_) fun _ _ x => x)
    obtain ⟨hr, h2⟩ := h2
    cases hb' : e i with
    | true =>
      rw [hb'] at hr
      subst hr
      have hR := fin s2 h2
      rw [any_of (by omega) hb'] at hR
      obtain ⟨hp2, g2, d2, tk2, os2⟩ := s2
      wp_walk
      exact hR
    | false =>
      rw [hb'] at hr
      subst hr
      have hrec := ih (i + 1) (by omega) (by omega) (fun j hj => by
        rcases Nat.lt_or_ge j i with q | q
        · exact hp j q
        · rw [show j = i by omega]; exact hb') s2 h2
      obtain ⟨hp2, g2, d2, tk2, os2⟩ := s2
      wp_walk
      rw [hc]
      exact ⟨plainId_quiet plain_contains_loop _, codeAny_builtin entry_contains_loop (by
        rw [Around.under_plainId plain_contains_loop _]
        exact hrec)⟩
theorem list_containsJ (l : Addr) (x : Value) (N : Nat) (e : Nat → Bool) (I : Shared → Prop) (hl : ListX prog w A (fun e s' => R (.error e) s') l x N e (fun i => ∀ j, j < i → e j = false) I)
    (fin : ∀ s, I s → R (.ok (.ret (.bool ((List.range N).any e)))) s) {s : Shared} (h : I s) :
    wpAny (model prog w) A.in1 (Builtin.«list.__contains__» ⟨[.ref l, x], []⟩) (FinOf prog w A R) (fun e s' => R (.error e) s') s := by
  obtain ⟨items, n, hl1, hs1, _⟩ := hl 0 _ h
  have hrec := contains_loopJ (A := A) (R := R) l x N e I hl fin _ 0 rfl (Nat.zero_le _) (fun j hj => absurd hj (Nat.not_lt_zero j)) s h
  obtain ⟨hp, g, d, tk, os⟩ := s
  wp_walk using wpAny_loadPart' hl1
  exact ⟨plainId_quiet plain_contains_loop _, codeAny_builtin entry_contains_loop (by
    rw [Around.under_plainId plain_contains_loop _]
    exact hrec)⟩
theorem count_loopJ (l : Addr) (x : Value) (N : Nat) (e : Nat → Bool) (I : Shared → Prop) (hl : ListX prog w A (fun e s' => R (.error e) s') l x N e (fun _ => True) I)
    (fin : ∀ s, I s → R (.ok (.ret (.int ((List.range N).countP e : Nat) s.toks))) { s with toks := s.toks + 1 }) (k : Nat) :
    ∀ (i : Nat) (found : Int), N - i = k → i ≤ N → found = ((List.range i).countP e : Nat) → ∀ s, I s →
      wpAny (model prog w) A.in1 (Builtin.«list.count.loop» ⟨[.ref l, x, rawInt i, rawInt found], []⟩) (FinOf prog w A R) (fun e s' => R (.error e) s') s := by
  induction k with
  | zero =>
    intro i found hk hi hf s h
    obtain ⟨items, n, hl1, hs1, _⟩ := hl i _ h
    have hi' : i = N := by omega
    have hR := fin s h
    subst hi'
    rw [← hf] at hR
    obtain ⟨hp, g, d, tk, os⟩ := s
    wp_walk using wpAny_loadPart' hl1
    have hi1 : items[((i : Nat) : Int).toNat]? = none := by simp; omega
    rw [hi1]
    wp_walk
    exact hR
  | succ k ih =>
    intro i found hk hi hf s h
    obtain ⟨items, n, hl1, hs1, turn⟩ := hl i _ h
    have hlt : i < items.size := by omega
    have ht := turn trivial hlt
    obtain ⟨hp0, g, d, tk, os⟩ := s
    wp_walk using wpAny_loadPart' hl1
    have hi1 : items[((i : Nat) : Int).toNat]? = some items[i] := by simp [hlt]
    have hc : ((i : Int) + 1) = ((i + 1 : Nat) : Int) := by omega
    rw [hi1]
    refine wpAny_bind (wpAny_mono ht (fun r s2 h2 => ?_) fun _ _ x => x)
    obtain ⟨hr, h2⟩ := h2
    subst hr
    have hrec := fun f hf => ih (i + 1) f (by omega) (by omega) hf s2 h2
    have hcn : (List.range (i + 1)).countP e = (List.range i).countP e + (if e i = true then 1 else 0) := by
      rw [List.range_succ, List.countP_append, List.countP_singleton]
    obtain ⟨hp2, g2, d2, tk2, os2⟩ := s2
    wp_walk
    rw [hc]
    refine ⟨plainId_quiet plain_count_loop _, codeAny_builtin entry_count_loop (by
      rw [Around.under_plainId plain_count_loop _]
      refine hrec _ ?_
      rw [hcn, hf]
      cases e i <;> simp)⟩
theorem list_countJ (l : Addr) (x : Value) (N : Nat) (e : Nat → Bool) (I : Shared → Prop) (hl : ListX prog w A (fun e s' => R (.error e) s') l x N e (fun _ => True) I)
    (fin : ∀ s, I s → R (.ok (.ret (.int ((List.range N).countP e : Nat) s.toks))) { s with toks := s.toks + 1 }) {s : Shared} (h : I s) :
    wpAny (model prog w) A.in1 (Builtin.«list.count» ⟨[.ref l, x], []⟩) (FinOf prog w A R) (fun e s' => R (.error e) s') s := by
  obtain ⟨items, n, hl1, hs1, _⟩ := hl 0 _ h
  have hrec := count_loopJ (A := A) (R := R) l x N e I hl fin _ 0 0 rfl (Nat.zero_le _) rfl s h
  obtain ⟨hp, g, d, tk, os⟩ := s
  wp_walk using wpAny_loadPart' hl1
  exact ⟨plainId_quiet plain_count_loop _, codeAny_builtin entry_count_loop (by
    rw [Around.under_plainId plain_count_loop _]
    exact hrec)⟩
end
section
variable {prog : Program} {w : World} {A : Around} {E : Value → Shared → Prop} {s : Shared}
theorem in_list {l : Addr} {x : Value} {N : Nat} {e : Nat → Bool} {Q : Bool → Shared → Prop} (I : Shared → Prop) (hl : ListX prog w A E l x N e (fun i => ∀ j, j < i → e j = false) I) (fin : ∀ s, I s → Q ((List.range N).any e) s) (h : I s) :
    wpAny (model prog w) A (contains (.ref l) x) Q E s := by
  obtain ⟨items, n, hl1, _, _⟩ := hl 0 _ h
  refine wpAny_contains_slot (c := .ref l) (T := "list") ⟨_, hl1, rfl⟩ F.slot_list_contains (wpAny_mono (call_here (Q := fun v s' => ∃ b, v = .bool b ∧ Q b s') F.slot_list_contains ⟨_, hl1, rfl⟩ F.entry_list_contains (F.args_list_contains_2 _ _) ?_) (fun v s' hv => ?_) fun _ _ e => e)
  · exact list_containsJ (R := wants (fun v s' => ∃ b, v = .bool b ∧ Q b s') E) l x N e I hl (fun s' q => ⟨_, rfl, fin s' q⟩) h
  · obtain ⟨b, rfl, hq⟩ := hv
    exact wpAny_truthy_bool hq
theorem count_list {l : Addr} {x : Value} {N : Nat} {e : Nat → Bool} {Q : Value → Shared → Prop} (I : Shared → Prop) (hl : ListX prog w A E l x N e (fun _ => True) I) (fin : ∀ s, I s → Q (.int ((List.range N).countP e : Nat) s.toks) { s with toks := s.toks + 1 }) (h : I s) :
    wpAny (model prog w) A (call (.builtin "list.count") [.ref l, x]) Q E s := by
  obtain ⟨items, n, hl1, _, _⟩ := hl 0 _ h
  exact call_here (Q := Q) F.slot_list_count ⟨_, hl1, rfl⟩ F.entry_list_count (F.args_list_count_2 _ _) (list_countJ (R := wants Q E) l x N e I hl (fun s' q => fin s' q) h)
end
end QE
namespace QE
open PySem PySem.SeqAt
open AutoSeq1 (wpAny_loadPart')
open MeetsSeq MeetsSeq2 MeetsSeq3 SeqRoads2
open GQ (FinOf call_here eqBool_refG)
section
variable {prog : Program} {w : World} {A : Around} {R : Result → Shared → Prop}
theorem tuple_containsJ {t : Addr} {x : Value} {items : Array Value} (e : Nat → Bool) (I : Shared → Prop)
    (turn : ∀ i (h1 : i < items.size) s, (∀ j, j < i → e j = false) → I s → wpAny (model prog w) A.in1 (eqBool items[i] x) (fun r s' => r = e i ∧ I s') (fun e s' => R (.error e) s') s)
    (fin : ∀ s, I s → R (.ok (.ret (.bool ((List.range items.size).any e)))) s) {s : Shared} (hl : PyProof.Rows.IsTup s.heap t items) (h : I s) :
    wpAny (model prog w) A.in1 (Builtin.«tuple.__contains__» ⟨[.ref t, x], []⟩) (FinOf prog w A R) (fun e s' => R (.error e) s') s := by
  show wpAny _ _ (Builtin.Tuple.tupleItemsOf (.ref t) >>= _) _ _ s
  refine wpAny_bind (PyProof.Rows.tupleItemsOf_ hl ?_)
  refine wpAny_bind (PyProof.Rows.forIn_array_ _ (fun rest b s' => b.1 = none ∧ ∃ i, rest = items.toList.drop i ∧ i ≤ items.size ∧ (∀ j, j < i → e j = false) ∧ I s') _ ?_ ?_ items _ ⟨rfl, 0, rfl, Nat.zero_le _, fun j hj => absurd hj (Nat.not_lt_zero j), h⟩)
  · rintro y rest b s' ⟨hb, i, hr, hi, hp, hI⟩
    have hlt : i < items.size := by
      rcases Nat.lt_or_ge i items.size with q | q
      · exact q
      · rw [List.drop_eq_nil_of_le (by simpa using q)] at hr; cases hr
    rw [List.drop_eq_getElem_cons (by simpa using hlt)] at hr
    injection hr with h1 h2
    subst h1
    refine wpAny_bind (wpAny_mono (turn i hlt s' hp hI) (fun r s2 q => ?_) fun _ _ x => x)
    obtain ⟨rfl, q⟩ := q
    cases he : e i with
    | true =>
      have hR := fin s2 q
      rw [any_of hlt he] at hR
      exact wpAny_bind (wpAny_pure (wpAny_pure (wpAny_pure hR)))
    | false =>
      refine wpAny_pure ⟨rfl, i + 1, h2, hlt, fun j hj => ?_, q⟩
      rcases Nat.lt_or_ge j i with z | z
      · exact hp j z
      · rw [show j = i by omega]; exact he
  · rintro ⟨b1, b2⟩ s' ⟨hb, i, hr, hi, hp, hI⟩
    simp only at hb
    subst hb
    have hn : items.size ≤ i := by
      rcases Nat.lt_or_ge i items.size with q | q
      · rw [List.drop_eq_getElem_cons (by simpa using q)] at hr; cases hr
      · exact q
    have hR := fin s' hI
    rw [any_no fun j hj => hp j (Nat.lt_of_lt_of_le hj hn)] at hR
    exact wpAny_pure hR
end
section
variable {prog : Program} {w : World} {A : Around} {E : Value → Shared → Prop} {s : Shared}
theorem in_tup {t : Addr} {x : Value} {items : Array Value} {Q : Bool → Shared → Prop} (e : Nat → Bool) (I : Shared → Prop) (hl : PyProof.Rows.IsTup s.heap t items)
    (turn : ∀ i (h1 : i < items.size) s, (∀ j, j < i → e j = false) → I s → wpAny (model prog w) A.in1 (eqBool items[i] x) (fun r s' => r = e i ∧ I s') E s)
    (fin : ∀ s, I s → Q ((List.range items.size).any e) s) (h : I s) :
    wpAny (model prog w) A (contains (.ref t) x) Q E s := by
  refine wpAny_contains_slot (c := .ref t) (T := "tuple") hl.typeIs F.slot_tuple_contains (wpAny_mono (call_here (Q := fun v s' => ∃ b, v = .bool b ∧ Q b s') F.slot_tuple_contains hl.typeIs F.entry_tuple_contains (F.args_tuple_contains_2 _ _) ?_) (fun v s' hv => ?_) fun _ _ e => e)
  · exact tuple_containsJ (R := wants (fun v s' => ∃ b, v = .bool b ∧ Q b s') E) e I turn (fun s' q => ⟨_, rfl, fin s' q⟩) hl h
  · obtain ⟨b, rfl, hq⟩ := hv
    exact wpAny_truthy_bool hq
end
end QE
namespace Y
open PySem L2
open PySem.Spec PyProof.Rows
open Evl (Ex)

/-! ### x in .., x not in .. -/
def anyW (f : W → Option Bool) : List W → Option Bool
  | [] => some false
  | y :: ys => match f y with
    | some true => some true
    | some false => anyW f ys
    | none => none
def countW (f : W → Option Bool) : List W → Option Nat
  | [] => some 0
  | y :: ys => match f y, countW f ys with
    | some b, some n => some (n + if b = true then 1 else 0)
    | _, _ => none
/-- in a list: item by item; in a tuple of flat items; a text in a text; a key in a dict -/
def inW (a b : W) : Option Bool := match b with
  | .lst ys => anyW (fun y => eqW 6 y a) ys
  | .tup ys => if a.at.isSome = true ∧ (ys.all fun y => y.at.isSome) = true then anyW (fun y => eqA y a) ys else anyW (fun y => eqW 6 y a) ys
  | .str z => (match a with
    | .str t => some (!(Builtin.Str.occurrences z t 0 z.length 1).isEmpty)
    | _ => none)
  | .dK kvs => a.key.map fun key => (lk kvs key).isSome
  | .dF kvs => a.key.map fun key => (lk kvs key).isSome
  | _ => none
def oInX (ng : Bool) : O2 := fun a b k => ∃ r, inW a b = some r ∧ k (.bl (nq ng r))
def itAt (f : W → Option Bool) (ys : List W) (i : Nat) : Bool := match ys[i]? with
  | some y => (f y).getD false
  | none => false
theorem anyW_at {f : W → Option Bool} : ∀ (ys : List W) (b : Bool), anyW f ys = some b → (∀ i y, ys[i]? = some y → (∀ j, j < i → itAt f ys j = false) → f y = some (itAt f ys i)) ∧ b = (List.range ys.length).any (itAt f ys)
  | [], b, e => by cases e; exact ⟨fun i y h => by simp at h, rfl⟩
  | y :: ys, b, e => by
    unfold anyW at e
    have e0 : itAt f (y :: ys) 0 = (f y).getD false := rfl
    have rg : (List.range (ys.length + 1)).any (itAt f (y :: ys)) = (itAt f (y :: ys) 0 || (List.range ys.length).any (itAt f ys)) := by
      rw [List.range_succ_eq_map, List.any_cons, List.any_map]
      rfl
    rw [List.length_cons, rg, e0]
    cases q : f y with
    | none => rw [q] at e; cases e
    | some z =>
      rw [q] at e
      cases z with
      | true =>
        cases e
        refine ⟨fun i y' h1 hp => ?_, rfl⟩
        cases i with
        | zero => simp at h1; subst h1; rw [e0, q]; rfl
        | succ i => have := hp 0 (Nat.succ_pos _); rw [e0, q] at this; cases this
      | false =>
        obtain ⟨h3, h4⟩ := anyW_at ys b e
        refine ⟨fun i y' h1 hp => ?_, ?_⟩
        · cases i with
          | zero => simp at h1; subst h1; rw [e0, q]; rfl
          | succ i => exact h3 i y' (by simpa using h1) fun j hj => hp (j + 1) (by omega)
        · rw [h4]; simp
theorem countW_at {f : W → Option Bool} : ∀ (ys : List W) (n : Nat), countW f ys = some n → (∀ i y, ys[i]? = some y → f y = some (itAt f ys i)) ∧ n = (List.range ys.length).countP (itAt f ys)
  | [], n, e => by cases e; exact ⟨fun i y h => by simp at h, rfl⟩
  | y :: ys, n, e => by
    unfold countW at e
    have e0 : itAt f (y :: ys) 0 = (f y).getD false := rfl
    have rg : (List.range (ys.length + 1)).countP (itAt f (y :: ys)) = (List.range ys.length).countP (itAt f ys) + (if itAt f (y :: ys) 0 = true then 1 else 0) := by
      rw [List.range_succ_eq_map, List.countP_cons, List.countP_map]
      rfl
    cases q : f y with
    | none => rw [q] at e; cases e
    | some b =>
      cases q2 : countW f ys with
      | none => rw [q, q2] at e; cases e
      | some m =>
        rw [q, q2] at e
        cases e
        obtain ⟨h3, h4⟩ := countW_at ys m q2
        refine ⟨fun i y' h1 => ?_, ?_⟩
        · cases i with
          | zero => simp at h1; subst h1; rw [e0, q]; rfl
          | succ i => exact h3 i y' (by simpa using h1)
        · rw [List.length_cons, rg, e0, q, h4]; rfl
section
variable {X : Cx} {Z : Zx} {n m kq : Nat} {ng : Bool} {CX' : CXT} {E : XS}
theorem listX {P : Nat → Prop} {f : W → Option Bool} (h : EqG2 X m (DqW X.K Z n)) {A : Around} {pins : List (Addr × Obj)} {σ : L2.St} {H : Hp} {a : Addr} {xs : List V} {ys : List W} {v : V} {u : Value} {w : W} (sb : Sub X (m + 1) A)
    (ha : H a = some (.lst xs)) (rs : Reps X.K Z H xs ys) (ru : RelV v u) (rw' : Rep X.K Z H v w) (hf : ∀ i y, ys[i]? = some y → P i → eqW n y w = some (itAt f ys i)) :
    QE.ListX X.prog X.w A X.xe a u xs.length (itAt f ys) P (fun s' => LoopI X pins σ H s') := fun i s' q => by
  obtain ⟨H1, I1, e1⟩ := id q
  obtain ⟨z, its, k, rv, e⟩ := I1.hok a _ (e1 _ _ ha)
  refine ⟨its.toArray, k, e, by rw [List.size_toArray, ← rv.length], fun hp h1 => ?_⟩
  have g1 : its[i]? = some its.toArray[i] := by
    have h1' : i < its.length := by simpa using h1
    rw [List.getElem?_eq_getElem h1'] <;> simp
  have k1 : i < xs.length := by rw [rv.length]; simpa using h1
  obtain ⟨u', hu, ru'⟩ := rv.get (List.getElem?_eq_getElem k1)
  rw [g1] at hu
  rw [Option.some.inj hu]
  obtain ⟨y, hy, ry⟩ := rs.getV (List.getElem?_eq_getElem k1)
  refine wpAny_mono (h A.in1 pins s' σ H1 _ _ u' u _ sb.in1 I1 ru' ru ⟨y, w, ry.mono e1, rw'.mono e1, hf i y hy hp⟩) (fun r s2 q => ?_) fun _ _ x => x
  obtain ⟨hr, H2, I2, e2⟩ := q
  exact ⟨hr, H2, I2, e1.trans e2⟩
def rInX (K : PySem.W.Frag) (Z : Zx) (ng : Bool) : R2 := fun x y H Q => ∃ a b r, Rep K Z H x a ∧ Rep K Z H y b ∧ inW a b = some r ∧ ∀ H', Ex H H' → Q (.bl (nq ng r)) H'
theorem contains_of {prog : Program} {w : World} {A : Around} {E : Value → Shared → Prop} {s : Shared} {x c : Value} {ng b : Bool} {P : Shared → Prop} (h : wpAny (model prog w) A (contains c x) (fun r s' => r = b ∧ P s') E s) :
    wpAny (model prog w) A (compareOp (if ng then .NotIn else .In) x c) (fun v s' => v = .bool (nq ng b) ∧ P s') E s := by
  cases ng with
  | false =>
    show wpAny (model prog w) A ((do return .bool (← contains c x)) : Sem Value) _ E s
    exact wpAny_bind (wpAny_mono h (fun r s' hv => by obtain ⟨rfl, q⟩ := hv; exact wpAny_pure ⟨rfl, q⟩) fun _ _ e => e)
  | true =>
    show wpAny (model prog w) A ((do return .bool (!(← contains c x))) : Sem Value) _ E s
    exact wpAny_bind (wpAny_mono h (fun r s' hv => by obtain ⟨rfl, q⟩ := hv; exact wpAny_pure ⟨rfl, q⟩) fun _ _ e => e)
theorem inV_any {K : PySem.W.Frag} {H : Hp} {x : V} {a : W} {z : V} (hx : Rep K Z H x a) (ha : a.at = some z) : ∀ {xs : List V} {ys : List W} {r : Bool}, Reps K Z H xs ys → (ys.all fun y => y.at.isSome) = true → anyW (fun y => eqA y a) ys = some r → xs.all flatV = true ∧ inV x xs = r
  | _, _, _, .nil, _, e => by cases e; exact ⟨rfl, rfl⟩
  | _, _, r, .cons (v := v) (w := w) (vs := vs) (ws := ws) h t, hf, e => by
    obtain ⟨f1, f2⟩ := He.ba (show (w.at.isSome && ws.all fun y => y.at.isSome) = true from hf)
    obtain ⟨y, hy⟩ := Option.isSome_iff_exists.mp f1
    have ev := h.at_eq hy
    have ex := hx.at_eq ha
    unfold anyW at e
    have e1 : eqA w a = some (eqV v x) := by unfold eqA; rw [hy, ha, ev, ex]
    have fv : flatV v = true := by rw [ev]; exact at_flat hy
    rw [e1] at e
    have base : ∀ (ws : List W) (vs : List V), Reps K Z H vs ws → (ws.all fun y => y.at.isSome) = true → vs.all flatV = true := by
      intro ws
      induction ws with
      | nil => intro vs r _; cases r; rfl
      | cons w ws ih =>
        intro vs r hf
        cases r with
        | cons h t =>
          obtain ⟨f1, f2⟩ := He.ba (show (w.at.isSome && ws.all fun y => y.at.isSome) = true from hf)
          obtain ⟨y, hy⟩ := Option.isSome_iff_exists.mp f1
          rw [List.all_cons, ih _ t f2, h.at_eq hy, at_flat hy]; rfl
    have all : (v :: vs).all flatV = true := by rw [List.all_cons, fv, base ws vs t f2]; rfl
    refine ⟨all, ?_⟩
    unfold inV
    rw [List.any_cons]
    cases q : eqV v x with
    | true => rw [q] at e; cases e; rfl
    | false =>
      rw [q] at e
      obtain ⟨_, h2⟩ := inV_any hx ha t f2 e
      unfold inV at h2
      rw [Bool.false_or]; exact h2
theorem op_inX {CX' : CXT} {E : XK} (ow : EqOwn X.prog X.w X.K X.mg X.base CX' Z kq) (hp' : Passes CX' X E) (hr : Room (kq + 8) X.A) : OpR X (compareOp (if ng then .NotIn else .In)) (rInX X.K Z ng) := by
  intro pins s σ H x y v u Q I rx ry h
  obtain ⟨a, b, r, ra, rb, e, q⟩ := h
  have hu : X.A.units + 1 < cLine := by have := hr.un; omega
  have fin : ∀ {P : Value → Shared → Prop}, (∀ s', LoopI X pins σ H s' → P (.bool (nq ng r)) s') → ∀ w' s', w' = .bool (nq ng r) ∧ LoopI X pins σ H s' → P w' s' := fun h w' s' hh => by obtain ⟨rfl, l⟩ := hh; exact h s' l
  have done : ∀ s', LoopI X pins σ H s' → EP X pins σ Q (.bool (nq ng r)) s' := fun s' l => by
    obtain ⟨H', I', e'⟩ := l
    exact ⟨.bl (nq ng r), H', I', rfl, q H' e'⟩
  cases b with
  | lst ys =>
    cases rb with
    | lst hb rs =>
      cases ry
      obtain ⟨h1, h2⟩ := anyW_at _ _ (show anyW (fun y => eqW 6 y a) ys = some r from e)
      have sb : Sub X (6 + kq + 1 + 1) X.A := ⟨by rw [show 6 + kq + 1 + 1 = kq + 8 by omega]; exact hr, rfl⟩
      refine wpAny_mono (contains_of (ng := ng) (b := r) (P := LoopI X pins σ H) ?_) (fin done) fun _ _ x => x
      refine QE.in_list _ (listX (n := 6) (f := fun y => eqW 6 y a) (P := fun i => ∀ j, j < i → itAt (fun y => eqW 6 y a) ys j = false) (eqG2W ow hp' 6) sb hb rs rx ra (fun i y hy hpi => h1 i y hy hpi)) (fun s' l => ?_) ⟨H, I, Ex.refl _⟩
      rw [rs.length]
      exact ⟨h2.symm, l⟩
  | tup ys =>
    replace e : (if a.at.isSome = true ∧ (ys.all fun y => y.at.isSome) = true then anyW (fun y => eqA y a) ys else anyW (fun y => eqW 6 y a) ys) = some r := e
    by_cases hf : a.at.isSome = true ∧ (ys.all fun y => y.at.isSome) = true
    · rw [if_pos hf] at e
      obtain ⟨hf0, hf⟩ := hf
      cases rb with
      | tup hb rs =>
        obtain ⟨z, hz⟩ := Option.isSome_iff_exists.mp hf0
        obtain ⟨h1, h2⟩ := inV_any ra hz rs hf e
        have fx : flatV x = true := by rw [ra.at_eq hz]; exact at_flat hz
        cases ng with
        | false => exact op_in_seq pins s σ H _ _ v u Q I rx ry ⟨_, _, rfl, .inr hb, fx, h1, by rw [h2]; exact q H (Ex.refl _)⟩
        | true => exact op_notIn_seq pins s σ H _ _ v u Q I rx ry ⟨_, _, rfl, .inr hb, fx, h1, by rw [h2]; exact q H (Ex.refl _)⟩
    · rw [if_neg hf] at e
      cases rb with
      | tup hb rs =>
        cases ry
        obtain ⟨h1, h2⟩ := anyW_at _ _ e
        obtain ⟨its, rv, e1, _⟩ := I.tuple hb
        have sb : Sub X (6 + kq + 1 + 1) X.A := ⟨by rw [show 6 + kq + 1 + 1 = kq + 8 by omega]; exact hr, rfl⟩
        have hsz : its.toArray.size = ys.length := by rw [List.size_toArray, ← rv.length, rs.length]
        refine wpAny_mono (contains_of (ng := ng) (b := r) (P := LoopI X pins σ H) ?_) (fin done) fun _ _ x => x
        refine QE.in_tup (itAt (fun y => eqW 6 y a) ys) (fun s' => LoopI X pins σ H s') e1 (fun i g1 s' hp l => ?_) (fun s' l => ?_) ⟨H, I, Ex.refl _⟩
        · obtain ⟨H1, I1, e2⟩ := l
          have g2 : its[i]? = some its.toArray[i] := by
            have h1' : i < its.length := by simpa using g1
            rw [List.getElem?_eq_getElem h1'] <;> simp
          have k1 := (show i < its.length by simpa using g1)
          rw [← rv.length] at k1
          obtain ⟨u', hu, ru'⟩ := rv.get (List.getElem?_eq_getElem k1)
          rw [g2] at hu
          rw [Option.some.inj hu]
          obtain ⟨y', hy, ry'⟩ := rs.getV (List.getElem?_eq_getElem k1)
          refine wpAny_mono (eqG2W ow hp' 6 X.A.in1 pins s' σ H1 _ _ u' v _ sb.in1 I1 ru' rx ⟨y', a, ry'.mono e2, ra.mono e2, h1 i y' hy hp⟩) (fun r s2 q => ?_) fun _ _ x => x
          obtain ⟨hr', H2, I2, e3⟩ := q
          exact ⟨hr', H2, I2, e2.trans e3⟩
        · rw [hsz]
          exact ⟨h2.symm, l⟩
  | str z =>
    cases a with
    | str t =>
      cases e
      cases ra; cases rb
      cases ng with
      | false => exact op_in_str pins s σ H _ _ v u Q I rx ry ⟨t, z, rfl, rfl, q H (Ex.refl _)⟩
      | true => exact op_notin_str pins s σ H _ _ v u Q I rx ry ⟨t, z, rfl, rfl, q H (Ex.refl _)⟩
    | _ => cases e
  | dK kvs =>
    obtain ⟨key, hk, rfl⟩ := Option.map_eq_some_iff.mp (show a.key.map (fun key => (lk kvs key).isSome) = some r from e)
    have ex := rep_key ra hk
    subst ex
    cases rb with
    | dK rd rk =>
      cases ry
      have hq := q H (Ex.refl _)
      rw [← isSome_lk rk] at hq
      cases ng with
      | false => exact d_in hu I (.inl ⟨_, key, rd, rfl, rfl⟩) rx fun s' I' => ⟨.bl _, H, I', rfl, hq⟩
      | true => exact d_notIn hu I (.inl ⟨_, key, rd, rfl, rfl⟩) rx fun s' I' => ⟨.bl _, H, I', rfl, hq⟩
  | dF kvs =>
    obtain ⟨key, hk, rfl⟩ := Option.map_eq_some_iff.mp (show a.key.map (fun key => (lk kvs key).isSome) = some r from e)
    have ex := rep_key ra hk
    subst ex
    cases rb with
    | dF rd rk =>
      cases ry
      have hq := q H (Ex.refl _)
      rw [← isSome_lk rk] at hq
      cases ng with
      | false => exact d_in hu I (.inl ⟨_, key, .inr ⟨_, rd⟩, rfl, rfl⟩) rx fun s' I' => ⟨.bl _, H, I', rfl, hq⟩
      | true => exact d_notIn hu I (.inl ⟨_, key, .inr ⟨_, rd⟩, rfl, rfl⟩) rx fun s' I' => ⟨.bl _, H, I', rfl, hq⟩
  | _ => cases e
theorem opd_inX {K : PySem.W.Frag} : OpD K Z (rInX K Z ng) (oInX ng) := by
  intro H0 H v1 w1 v2 w2 k Q e r1 r2 o f
  obtain ⟨r, h, q⟩ := o
  exact ⟨w1, w2, r, r1.up e, r2.up e, h, fun H' e' => f H0 H' _ _ ⟨Ex.refl _, e', e.trans e', fun a o h n => by rw [n] at h; cases h⟩ .bl q⟩
end
section
variable {X : Cx} {Z : Zx} {E : XS} {CX' : CXT} {kq : Nat} {e a b c : Expr} {da db dc : DE} {pos : Pos}
theorem ptd_inX {E9 : XK} (ow : EqOwn X.prog X.w X.K X.mg X.base CX' Z kq) (hp : Passes CX' X E9) (hr : Room (kq + 8) X.A) (ha : PD X Z E a da) (hb : PD X Z E b db) (hm : behindInMarks .In b = false := by rfl) : PTD X Z E (.Compare a [.In] [b] pos) (dTest (dOp (oInX false) da db)) := ptd_cmp (op_inX (ng := false) ow hp hr) opd_inX ha hb hm
theorem ptd_notInX {E9 : XK} (ow : EqOwn X.prog X.w X.K X.mg X.base CX' Z kq) (hp : Passes CX' X E9) (hr : Room (kq + 8) X.A) (ha : PD X Z E a da) (hb : PD X Z E b db) (hm : behindInMarks .NotIn b = false := by rfl) : PTD X Z E (.Compare a [.NotIn] [b] pos) (dTest (dOp (oInX true) da db)) := ptd_cmp (op_inX (ng := true) ow hp hr) opd_inX ha hb hm
end
end Y
namespace Y
open PySem L2
open PySem.Spec PyProof.Rows
open Evl (Ex)

/-! ### an owned list, changed by its methods -/
def fPop : List W → List W → (W → List W → Prop) → Prop := fun ws xs k => match ws with
  | [] => ∃ w, xs[xs.length - 1]? = some w ∧ k w xs.dropLast
  | [.int i] => ∃ j w, (-(2 ^ 63) ≤ i ∧ i < 2 ^ 63) ∧ seqIndex? i xs.length = some j ∧ xs[j]? = some w ∧ k w (xs.eraseIdx j)
  | _ => False
def fInsert : List W → List W → (W → List W → Prop) → Prop := fun ws xs k => match ws with
  | [.int i, w] => (xs.length < sizeLine ∧ 0 ≤ i ∧ i < 2 ^ 63) ∧ k .non (xs.take i.toNat ++ [w] ++ xs.drop i.toNat)
  | _ => False
section
variable {K : PySem.W.Frag} {Z : Zx} {H0 : Hp}
theorem Reps.dropLast : ∀ {xs : List V} {ws : List W}, Reps K Z H0 xs ws → Reps K Z H0 xs.dropLast ws.dropLast
  | _, _, .nil => .nil
  | _, _, .cons h .nil => .nil
  | _, _, .cons h (.cons h2 t) => .cons h (Reps.dropLast (.cons h2 t))
theorem Reps.eraseIdx : ∀ {xs : List V} {ws : List W} (j : Nat), Reps K Z H0 xs ws → Reps K Z H0 (xs.eraseIdx j) (ws.eraseIdx j)
  | _, _, _, .nil => .nil
  | _, _, 0, .cons h t => t
  | _, _, j + 1, .cons h t => .cons h (Reps.eraseIdx j t)
theorem Reps.reverse {xs : List V} {ws : List W} (h : Reps K Z H0 xs ws) : Reps K Z H0 xs.reverse ws.reverse := by
  induction xs generalizing ws with
  | nil => cases h; exact .nil
  | cons x xs ih =>
    cases h with
    | cons h t =>
      rw [List.reverse_cons, List.reverse_cons]
      exact (ih t).append (.one h)
theorem mut_insert : MutD K Z (fun x vs H Q => ∃ (l : Addr) (xs : List V) (i : Int) (y : V), x = .ref l ∧ vs = [.int i, y] ∧ H l = some (.lst xs) ∧ xs.length < sizeLine ∧ 0 ≤ i ∧ i < 2 ^ 63 ∧ Q .non (upd H l (.lst (xs.take i.toNat ++ [y] ++ xs.drop i.toNat)))) fInsert := by
  intro H0 H p xs ws vs us k Q e hp r1 r2 h f
  unfold fInsert at h
  split at h
  · cases r2 with
    | cons r t =>
      cases t with
      | cons r' t =>
        cases t
        cases r
        exact ⟨p, xs, _, _, rfl, rfl, hp, by rw [r1.length]; exact h.1.1, h.1.2.1, h.1.2.2, f _ _ _ _ .non (((r1.take _).append (.one r')).append (r1.drop _)) h.2⟩
  · exact h.elim
theorem mut_popAt : MutD K Z rPopAt (fun us xs k => us ≠ [] ∧ fPop us xs k) := by
  intro H0 H p xs ws vs us k Q e hp r1 r2 h f
  obtain ⟨hne, h⟩ := h
  unfold fPop at h
  split at h
  · exact absurd rfl hne
  · cases r2 with
    | cons r t =>
      cases t
      cases r
      obtain ⟨j, w, ⟨b1, b2⟩, h1, h2, h3⟩ := h
      obtain ⟨v, hv, rv⟩ := r1.get h2
      exact ⟨p, xs, _, j, v, rfl, rfl, hp, b1, b2, by rw [r1.length]; exact h1, hv, f _ _ _ _ rv (r1.eraseIdx j) h3⟩
  · exact h.elim
end
section
variable {X : Cx} {Z : Zx} {E : XS} {e o a b : Expr} {es : List Expr} {da db dd : DE} {ds : DA} {apos cpos pos : Pos}
theorem pd_insert (ho : PD X Z E o dd) (ha : PAD X Z E [a, b] ds)
    (hbase : attributeBase o "insert" X.env (eval o X.env) = eval o X.env := by rfl)
    (hfew : ((backTo cpos (starEach [a, b] X.env)).all (fun x => !x.1) && (backToKw cpos (keywordEach [] X.env)).all (fun x => x.1.isSome)
      && decide ([a, b].length + ([] : List Keyword).length + (if ([] : List Keyword).isEmpty then 0 else 1) < 30)) = true := by rfl)
    (hline : (apos.endLine == cpos.line) = true := by rfl) (hs : starEach [a, b] X.env = (false, eval a X.env) :: starEach [b] X.env := by rfl) (hplain : (backTo cpos (starEach [b] X.env)).any (·.1) = false := by rfl) :
    PD X Z E (.Call (.Attribute o "insert" apos) [a, b] [] cpos) (dMutL fInsert dd ds) :=
  pe_weak (pe_bm PySem.F.plainAttrs_list PySem.F.slot_list_insert PySem.F.type_list_insert mt_insert ho ha hbase hfew hline hs hplain) fun _ _ _ => dmut_ok mut_insert
theorem pd_popAt (ho : PD X Z E o dd) (ha : PAD X Z E [e] ds)
    (hbase : attributeBase o "pop" X.env (eval o X.env) = eval o X.env := by rfl)
    (hfew : ((backTo cpos (starEach [e] X.env)).all (fun x => !x.1) && (backToKw cpos (keywordEach [] X.env)).all (fun x => x.1.isSome)
      && decide ([e].length + ([] : List Keyword).length + (if ([] : List Keyword).isEmpty then 0 else 1) < 30)) = true := by rfl)
    (hline : (apos.endLine == cpos.line) = true := by rfl) (hs : starEach [e] X.env = (false, eval e X.env) :: starEach [] X.env := by rfl) (hplain : (backTo cpos (starEach [] X.env)).any (·.1) = false := by rfl) :
    PD X Z E (.Call (.Attribute o "pop" apos) [e] [] cpos) (dMutL (fun us xs k => us ≠ [] ∧ fPop us xs k) dd ds) :=
  pe_weak (pe_bm PySem.F.plainAttrs_list PySem.F.slot_list_pop PySem.F.type_list_pop mt_popAt ho ha hbase hfew hline hs hplain) fun _ _ _ => dmut_ok mut_popAt
end

/-! ### o[i] = v as a target: an owned list, an owned dict -/
def gSubD (dd di : DE) : DG := fun w st k => dd st (fun r st1 => di st1 (fun ri st2 => match r with
  | .pk j => (match getT st2 j, ri.val st2 with
    | some (.lst xs), some (.int i) => ∃ n, ixN xs.length i = some n ∧ k (setT st2 j (.lst (xs.set n w)))
    | some (.dK kvs), some u => (match u.key with
      | some key => kvs.length < sizeLine ∧ k (setT st2 j (.dK (pt kvs key w)))
      | none => False)
    | _, _ => False)
  | _ => False) (fun _ _ => False)) (fun _ _ => False)
def rSetX : TSet := fun o i v H Q => rSetL o i v H Q ∨ rSetD o i v H Q
section
variable {X : Cx} {Z : Zx} {E : XS} {e o i a b : Expr} {dd di : DE} {pos : Pos}
theorem set_X (hu : X.A.units + 1 < cLine) : PSet X rSetX := fun pins s σ H o i v ov iv u Q I ro ri rv h => by
  rcases h with h | h
  · exact set_list pins s σ H o i v ov iv u Q I ro ri rv h
  · exact set_dict hu pins s σ H o i v ov iv u Q I ro ri rv h
theorem subX_ok {K : PySem.W.Frag} {v : V} {σ : L2.St} {H : Hp} {Q : L2.St → Hp → Prop} (q : tG K Z (gSubD dd di) v σ H Q) : gSub (tE K Z E0s dd) (tE K Z E0s di) rSetX v σ H Q := by
  obtain ⟨H0, F, G, pv, st, w, k, wd, ss, r, hg, hk⟩ := q
  have nox : ∀ {σ : L2.St} {H0 : Hp}, AccXe K Z E0s F pv σ H0 (fun _ _ => False) := ⟨hk.tabs, fun _ _ _ _ _ _ _ _ _ _ _ z => z.elim⟩
  refine tE_seq wd ss nox hg fun H1 G1 H1' st1 v1 r1 e1 wd1 ss1 rr1 k1 => ?_
  refine tE_seq wd1 ss1 nox k1 fun H2 G2 H2' st2 v2 r2 e2 wd2 ss2 rr2 k2 => ?_
  cases rr1 with
  | w _ => exact k2.elim
  | pk hp =>
    rename_i j
    replace k2 : (match getT st2 j, r2.val st2 with
      | some (.lst xs), some (.int i) => ∃ n, ixN xs.length i = some n ∧ k (setT st2 j (.lst (xs.set n w)))
      | some (.dK kvs), some u => (match u.key with
        | some key => kvs.length < sizeLine ∧ k (setT st2 j (.dK (pt kvs key w)))
        | none => False)
      | _, _ => False) := k2
    have rw2 := r.mono (e1.trans e2)
    cases q1 : getT st2 j with
    | none => rw [q1] at k2; exact k2.elim
    | some t =>
      rw [q1] at k2
      cases q2 : r2.val st2 with
      | none => rw [q2] at k2; cases t <;> exact k2.elim
      | some u =>
        rw [q2] at k2
        have rp := rr2.peek ss2 wd2 q2
        obtain ⟨Gx, Ga, Gb, h1, h2, h3⟩ := ss2.own q1 hp
        cases t with
        | lst xs =>
          cases u with
          | int i =>
            obtain ⟨n, hn, k3⟩ := k2
            cases h1 with
            | @lst p vs _ rs =>
              subst h2
              have hpH : H2' p = some (.lst vs) := wd2.ow (p, _) (by simp)
              have ev : v2 = .int i := by cases rp with | fz h => cases h; rfl
              subst ev
              exact .inl ⟨p, vs, i, n, rfl, rfl, hpH, by rw [rs.length]; exact hn, hk _ _ _ _ _ (e1.trans e2) wd2.write (h3 H2 _ _ (Ex.refl _) (.lst (rs.set rw2 n))) k3⟩
          | _ => exact k2.elim
        | dK kvs =>
          replace k2 : (match u.key with
            | some key => kvs.length < sizeLine ∧ k (setT st2 j (.dK (pt kvs key w)))
            | none => False) := by cases u <;> exact k2
          cases q3 : u.key with
          | none => rw [q3] at k2; exact k2.elim
          | some key =>
            rw [q3] at k2
            cases h1 with
            | dK rkv =>
              rename_i p kv
              subst h2
              have hpH : H2' p = some (.dK kv) := wd2.ow (p, _) (by simp)
              have rput := rkv.put (k := key) rw2
              exact .inr ⟨p, _, rfl, .inl ⟨kv, key, hpH, rp.key_of q3, by rw [rkv.length]; exact k2.1, rfl⟩, hk _ _ _ _ _ (e1.trans e2) wd2.write (h3 H2 _ _ (Ex.refl _) (.dK rput)) k2.2⟩
        | _ => exact k2.elim
theorem pgd_sub (hu : X.A.units + 1 < cLine) (ho : PD X Z E0s o dd) (hi : PD X Z E0s i di)
    (ha : ∀ v, assign (.Subscript o i pos) X.env v = (do
      let ov ← holding [v] (eval o X.env)
      let iv ← holding [v, ov] (eval i X.env)
      standAt pos
      holding [v, ov, iv] (setItem ov iv v)
      release [v, ov, iv] []) := by intro _; rfl) : PGD X Z (.Subscript o i pos) (gSubD dd di) :=
  pg_weak (pg_sub ho hi (set_X hu) ha) fun _ _ _ _ => subX_ok
end
end Y
namespace Y
open PySem L2
open PySem.Spec PyProof.Rows
open Evl (Ex)

/-! ### a name's own thing, frozen as it is read -/
section
variable {X : Cx} {Z : Zx} {E : XS} {pos : Pos}
end

/-! ### methods that read alone -/
def W.kd : W → String
  | .lst _ => "list" | .scr _ => "list" | .str _ => "str" | _ => ""
def kdR (T : String) (st : S) (r : R) : Bool := match r.val st with
  | some w => w.kd == T
  | none => false
abbrev OM := W → List W → (W → Prop) → Prop
def dMt (T : String) (o : OM) (d : DE) (a : DA) : DE := fun st k x => d st (fun r st0 => kdR T st0 r = true ∧ a st0 (fun rs st1 => match r.val st1, vals st1 rs with
  | some w, some ws => o w ws fun w' => k (.w w') st1
  | _, _ => False) x) x
def MtD (K : PySem.W.Frag) (Z : Zx) (r : V → List V → Hp → VK → Prop) (o : OM) : Prop := ∀ H0 H v w vs ws k Q, Ex H0 H → RepP K Z H0 H v w → RepPs K Z H0 H vs ws → o w ws k → Fin K Z H0 H k Q → r v vs H Q
theorem RepP.tyV {K : PySem.W.Frag} {Z : Zx} {H0 H : Hp} {v : V} {w : W} {T : String} (hT : T = "list" ∨ T = "str") (h : RepP K Z H0 H v w) (e : Ex H0 H) (hk : w.kd = T) : tyV K T v H := by
  cases w with
  | str s => have z := h.str_of; subst z; exact hk.symm
  | lst ws =>
    obtain ⟨p, xs, rfl, hp, _⟩ := h.lst_of e
    exact .inl ⟨hk.symm, _, .of hp⟩
  | scr ns =>
    obtain ⟨p, rfl, hp⟩ := h.scr_of e
    exact .inl ⟨hk.symm, _, hp⟩
  | _ => rcases hT with rfl | rfl <;> exact absurd hk (show ¬ "" = _ by decide)
section
variable {X : Cx} {Z : Zx} {E : XS} {e o : Expr} {es : List Expr} {dd : DE} {ds : DA} {apos cpos pos : Pos} {T id : String} {name : Str} {r : V → List V → Hp → VK → Prop} {om : OM}
theorem kdR_ty {K : PySem.W.Frag} {H0 H F : Hp} {G : Fp} {pv : List V} {σ : L2.St} {st : S} {v : V} {r1 : R} (hT : T = "list" ∨ T = "str") (wd : Wd H0 F G H) (ss : Sts K Z H0 pv σ st G) (rr : RepR K Z H0 σ v r1) (hkd : kdR T st r1 = true) : tyV K T v H := by
  unfold kdR at hkd
  cases q1 : r1.val st with
  | none => rw [q1] at hkd; exact absurd hkd Bool.false_ne_true
  | some w => rw [q1] at hkd; exact (rr.peek ss wd q1).tyV hT wd.ex (beq_iff_eq.mp hkd)
theorem dmt_ok2 (hT : T = "list" ∨ T = "str") (hm : MtD X.K Z r om) {σ : L2.St} {H : Hp} {Q : VK} (q : tE X.K Z E (dMt T om dd ds) σ H Q) : tBM X.K T r (tE X.K Z E dd) (tAr X.K Z E ds) σ H Q := by
  obtain ⟨H0, F, G, pv, st, k, kx, wd, ss, hd, hk, hx⟩ := q
  refine tE_seq wd ss hx hd fun H1 G1 H1' st1 v r1 e1 wd1 ss1 rr k1 => ?_
  obtain ⟨hkd, k1⟩ := k1
  refine ⟨kdR_ty hT wd1 ss1 rr hkd, ?_⟩
  refine tA_seq wd1 ss1 (hx.up e1) k1 fun H2 G2 H2' st2 vs rs e2 wd2 ss2 rr2 k2 => ?_
  cases q1 : r1.val st2 with
  | none => rw [q1] at k2; exact k2.elim
  | some w =>
    cases q2 : vals st2 rs with
    | none => rw [q1, q2] at k2; exact k2.elim
    | some ws =>
      rw [q1, q2] at k2
      exact hm H2 H2' v w vs ws _ Q wd2.ex ((rr.mono e2).peek ss2 wd2 q1) (rr2.peek ss2 wd2 q2) k2 fun H0' H' v' w' g rv kw => hk _ _ _ _ _ _ (e1.trans (e2.trans g.e0)) (wd2.grow g) (ss2.mono g.e0) (.w rv) kw
theorem pd_mt (hT : T = "list" ∨ T = "str") (pa : PlainAttrs T) (slot : Slot T name id) (hty : typeOf (.builtin id) = pure (.type "method_descriptor")) (hm : MtR X id r) (hd : MtD X.K Z r om) (ho : PD X Z E o dd) (ha : PAD X Z E (e :: es) ds)
    (hbase : attributeBase o name X.env (eval o X.env) = eval o X.env := by rfl)
    (hfew : ((backTo cpos (starEach (e :: es) X.env)).all (fun x => !x.1) && (backToKw cpos (keywordEach [] X.env)).all (fun x => x.1.isSome)
      && decide ((e :: es).length + ([] : List Keyword).length + (if ([] : List Keyword).isEmpty then 0 else 1) < 30)) = true := by rfl)
    (hline : (apos.endLine == cpos.line) = true := by rfl) (hs : starEach (e :: es) X.env = (false, eval e X.env) :: starEach es X.env := by rfl) (hplain : (backTo cpos (starEach es X.env)).any (·.1) = false := by rfl) :
    PD X Z E (.Call (.Attribute o name apos) (e :: es) [] cpos) (dMt T om dd ds) :=
  pe_weak (pe_bm pa slot hty hm ho ha hbase hfew hline hs hplain) fun _ _ _ => dmt_ok2 hT hd
end
section
variable {X : Cx} {Z : Zx} {K : PySem.W.Frag} {H0 H : Hp}
theorem RepPs.two {vs : List V} {w u : W} (h : RepPs K Z H0 H vs [w, u]) : ∃ x y, vs = [x, y] ∧ RepP K Z H0 H x w ∧ RepP K Z H0 H y u := by
  cases h with
  | cons h t => cases t with | cons h' t => cases t; exact ⟨_, _, rfl, h, h'⟩
/-- xs.count(x) by == -/
def oCount : OM := fun w ws k => match w, ws with
  | .lst ys, [a] => ∃ n : Nat, countW (fun y => eqW 6 y a) ys = some n ∧ k (.int n)
  | _, _ => False
def rCntX (K : PySem.W.Frag) (Z : Zx) : V → List V → Hp → VK → Prop := fun x xs H Q => ∃ ys a v, ∃ n : Nat, xs = [v] ∧ Rep K Z H x (.lst ys) ∧ Rep K Z H v a ∧ countW (fun y => eqW 6 y a) ys = some n ∧ ∀ H', Ex H H' → Q (.int n) H'
theorem mt_countX {kq : Nat} {CX' : CXT} {E : XK} (ow : EqOwn X.prog X.w X.K X.mg X.base CX' Z kq) (hp : Passes CX' X E) (hr : Room (kq + 8) X.A) : MtR X "list.count" (rCntX X.K Z) := by
  intro pins s σ H x xs v us Q I rx rxs h
  obtain ⟨ys, a, y, n, rfl, ra, rb, e, q⟩ := h
  obtain ⟨u, rfl, ru⟩ := rxs.one
  cases ra with
  | lst hb rs =>
    cases rx
    obtain ⟨h1, h2⟩ := countW_at _ _ e
    have sb : Sub X (6 + kq + 1 + 1) X.A := ⟨by rw [show 6 + kq + 1 + 1 = kq + 8 by omega]; exact hr, rfl⟩
    refine QE.count_list _ (listX (n := 6) (f := fun y => eqW 6 y a) (P := fun _ => True) (eqG2W ow hp 6) sb hb rs ru rb (fun i y hy _ => h1 i y hy)) (fun s' l => ?_) ⟨H, I, Ex.refl _⟩
    obtain ⟨H', I', e'⟩ := l
    rw [rs.length, ← h2]
    exact ⟨.int (n : Nat), H', I'.tok _, ⟨_, rfl⟩, q H' e'⟩
theorem md_countX : MtD K Z (rCntX K Z) oCount := by
  intro H0 H v w vs ws k Q e rv rvs o f
  unfold oCount at o
  split at o
  · rename_i ys a
    obtain ⟨n, h1, h2⟩ := o
    obtain ⟨y, rfl, ry⟩ := rvs.one
    exact ⟨ys, a, y, n, rfl, rv.up e, ry.up e, h1, fun H' e' => f H0 H' _ _ ⟨Ex.refl _, e', e.trans e', fun a o h n => by rw [n] at h; cases h⟩ .int h2⟩
  · exact o.elim
/-- xs.index(x) of plain data: it is there -/
def oIndex : OM := fun w ws k => match w, ws with
  | .lst ys, [a] => ∃ ds d j z, W.pds ys = some ds ∧ a.pd = some d ∧ SeqAt.shaped (.list ds) = true ∧ SeqAt.shaped d = true ∧ ds[j]? = some z ∧ PyData.eqv z d = true ∧ (∀ (m : Nat) (z' : PyData), m < j → ds[m]? = some z' → PyData.eqv z' d = false) ∧ k (.int (j : Nat))
  | _, _ => False
theorem md_index : MtD K Z (rIndexD K) oIndex := by
  intro H0 H v w vs ws k Q e rv rvs o f
  unfold oIndex at o
  split at o
  · rename_i ys a
    obtain ⟨ds, d, j, z, h1, h2, h3, h4, h5, h6, h7, h8⟩ := o
    obtain ⟨y, rfl, ry⟩ := rvs.one
    obtain ⟨p, xs, rfl, hp, rs⟩ := rv.lst_of e
    exact ⟨p, y, d, ds, j, z, rfl, rfl, .lst (.of hp) (Reps.dp ys (rs.mono e) h1), ry.dp e h2, h3, h4, h5, h6, h7, f.same e .int h8⟩
  · exact o.elim
end

/-! ### calls that make a new list -/
abbrev OL := List W → (List W → Prop) → Prop
def CallL (K : PySem.W.Frag) (Z : Zx) (r : List V → Hp → VK → Prop) (c : OL) : Prop := ∀ H0 H vs ws (k : List W → Prop) (Q : VK), Ex H0 H → RepPs K Z H0 H vs ws → c ws k → (∀ p xs zs, H p = none → Reps K Z H0 xs zs → k zs → Q (.ref p) (upd H p (.lst xs))) → r vs H Q
def lCB (c : OL) (a : DA) : DL := fun st k x => a st (fun rs st1 => match vals st1 rs with
  | some ws => c ws fun zs => k zs st1
  | none => False) x
section
variable {X : Cx} {Z : Zx} {E : XS} {e o : Expr} {es : List Expr} {dd : DE} {ds : DA} {pos : Pos}
theorem lcb_ok {r : List V → Hp → VK → Prop} {c : OL} (hc : CallL X.K Z r c) {σ : L2.St} {H : Hp} {Q : VK} (q : tL X.K Z E (lCB c ds) σ H Q) : tCB r (tAr X.K Z E ds) σ H Q := by
  obtain ⟨H0, F, G, pv, st, k, kx, wd, ss, hd, hk, hx⟩ := q
  refine tA_seq wd ss hx hd fun H1 G1 H1' st1 vs rs e1 wd1 ss1 rr1 k1 => ?_
  cases q1 : vals st1 rs with
  | none => rw [q1] at k1; exact k1.elim
  | some ws =>
    rw [q1] at k1
    exact hc H1 H1' vs ws _ Q wd1.ex (rr1.peek ss1 wd1 q1) k1 fun p xs zs hp r kz => hk _ _ _ _ _ _ _ e1 (wd1.hand hp) (wd1.free hp).2.1 ss1 r kz
theorem pl_callTy {x : Str} {p : Pos} {id : String} {r : List V → Hp → VK → Prop} {c : OL} (hc : CallR X (.type id) r) (hd : CallL X.K Z r c) (hg : Gl X x) (hm : X.mg x = none) (hv : bootBuiltins x = some (.type id)) (ha : PAD X Z E (e :: es) ds)
    (hn : x ≠ "__name__" := by decide) (hdb : (x == ("__debug__" : Str)) = false := by decide) (he : starEach (e :: es) X.env = (false, eval e X.env) :: starEach es X.env := by rfl) (hpl : (backTo pos (starEach es X.env)).any (·.1) = false := by rfl) :
    PLD X Z E (.Call (.Name x p) (e :: es) [] pos) (lCB c ds) := pe_weak (pe_callTy hc hg hm hv ha hn hdb he hpl) fun _ _ _ => lcb_ok hd
end
section
variable {X : Cx} {Z : Zx} {K : PySem.W.Frag} {H0 H : Hp}
theorem Reps.strs_of : ∀ {ns : List Str} {xs}, Reps K Z H xs (ns.map W.str) → xs = ns.map V.str
  | [], _, h => by cases h; rfl
  | n :: ns, _, h => by cases h with | cons r t => cases r; rw [Reps.strs_of t, List.map_cons]
/-- list(x) of a list, a tuple -/
def cList : OL := fun ws k => match ws with
  | [.lst ys] => k ys
  | [.tup ys] => k ys
  | [.scr ns] => k (ns.map .int)
  | _ => False
theorem cl_list : CallL K Z (fun xs H Q => ∃ p ys, xs = [.ref p] ∧ (SqL K H p ys ∨ SqT K H p ys) ∧ ∀ l, H l = none → Q (.ref l) (upd H l (.lst ys))) cList := by
  intro H0 H vs ws k Q e r c f
  unfold cList at c
  split at c
  · obtain ⟨v, rfl, rv⟩ := r.one
    obtain ⟨p, xs, rfl, hp, rs⟩ := rv.lst_of e
    exact ⟨p, xs, rfl, .inl (.of hp), fun l hl => f l xs _ hl rs c⟩
  · obtain ⟨v, rfl, rv⟩ := r.one
    obtain ⟨p, xs, rfl, hp, rs⟩ := rv.tup_of e
    exact ⟨p, xs, rfl, .inr hp, fun l hl => f l xs _ hl rs c⟩
  · obtain ⟨v, rfl, rv⟩ := r.one
    obtain ⟨p, rfl, hp⟩ := rv.scr_of e
    exact ⟨p, _, rfl, .inl hp, fun l hl => f l _ _ hl (Reps.map _ _ (fun _ => .int) _) c⟩
  · exact c.elim
/-- tuple(x) of a list, a tuple -/
def cTuple : OC := fun ws k => match ws with
  | [.lst ys] => k (.tup ys)
  | [.tup ys] => k (.tup ys)
  | _ => False
theorem cd_tuple : CallD K Z (fun xs H Q => ∃ p ys, xs = [.ref p] ∧ ((SqL K H p ys ∧ ∀ l, H l = none → Q (.ref l) (upd H l (.tup ys))) ∨ (SqT K H p ys ∧ Q (.ref p) H))) cTuple := by
  intro H0 H vs ws k Q e r c f
  unfold cTuple at c
  split at c
  · obtain ⟨v, rfl, rv⟩ := r.one
    obtain ⟨p, xs, rfl, hp, rs⟩ := rv.lst_of e
    exact ⟨p, xs, rfl, .inl ⟨.of hp, f.newT e rs c⟩⟩
  · obtain ⟨v, rfl, rv⟩ := r.one
    have rv' := rv
    obtain ⟨p, xs, rfl, hp, rs⟩ := rv.tup_of e
    refine ⟨p, xs, rfl, .inr ⟨hp, ?_⟩⟩
    cases rv' with | fz h => exact f.same e h c
  · exact c.elim
end
end Y
namespace Y
open PySem L2
open PySem.Spec PyProof.Rows
open Evl (Ex)
/-! ### methods of texts -/
def oJoin : OM := fun w ws k => match w, ws with
  | .str a, [.lst xs] => ∃ ys : List Str, xs = ys.map .str ∧ (ys.map (·.length)).sum + ys.length * a.length ≤ 16777216 ∧ k (.str (Txt.join a ys))
  | .str a, [.tup xs] => ∃ ys : List Str, xs = ys.map .str ∧ (ys.map (·.length)).sum + ys.length * a.length ≤ 16777216 ∧ k (.str (Txt.join a ys))
  | _, _ => False
def oSIndex : OM := fun w ws k => match w, ws with
  | .str a, [.str b] => ∃ (i : Nat) (rest : List Nat), Builtin.Str.occurrences a b 0 a.length 1 = i :: rest ∧ k (.int (i : Nat))
  | _, _ => False
section
variable {K : PySem.W.Frag} {Z : Zx} {H0 H : Hp}
theorem md_join : MtD K Z (fun x xs H Q => ∃ a p, ∃ ys : List Str, x = .str a ∧ xs = [.ref p] ∧ (SqL K H p (ys.map V.str) ∨ SqT K H p (ys.map V.str)) ∧
    (ys.map (·.length)).sum + ys.length * a.length ≤ 16777216 ∧ Q (.str (Txt.join a ys)) H) oJoin := by
  intro H0 H v w vs ws k Q e rv rvs o f
  unfold oJoin at o
  split at o
  · obtain ⟨ys, rfl, h1, h2⟩ := o
    obtain ⟨y, rfl, ry⟩ := rvs.one
    obtain ⟨p, xs, rfl, hp, rs⟩ := ry.lst_of e
    exact ⟨_, p, ys, rv.str_of, rfl, .inl (by rw [← rs.strs_of]; exact .of hp), h1, f.same e .str h2⟩
  · obtain ⟨ys, rfl, h1, h2⟩ := o
    obtain ⟨y, rfl, ry⟩ := rvs.one
    obtain ⟨p, xs, rfl, hp, rs⟩ := ry.tup_of e
    exact ⟨_, p, ys, rv.str_of, rfl, .inr (by rw [← rs.strs_of]; exact hp), h1, f.same e .str h2⟩
  · exact o.elim
theorem md_sindex : MtD K Z (fun x xs H Q => ∃ a b i rest, x = .str a ∧ xs = [.str b] ∧ Builtin.Str.occurrences a b 0 a.length 1 = i :: rest ∧ Q (.int (i : Nat)) H) oSIndex := by
  intro H0 H v w vs ws k Q e rv rvs o f
  unfold oSIndex at o
  split at o
  · obtain ⟨i, rest, h1, h2⟩ := o
    obtain ⟨y, rfl, ry⟩ := rvs.one
    exact ⟨_, _, i, rest, rv.str_of, by rw [ry.str_of], h1, f.same e .int h2⟩
  · exact o.elim
end

/-! ### slices of texts and of tuples -/
def dCutS (d : DE) (lo hi : DO) : DE := fun st k x => d st (fun r st1 => lo st1 (fun l st2 => hi st2 (fun h st3 => match r with
  | .w (.str z) => z.length ≤ sizeLine ∧ k (.w (.str (cutS z l h))) st3
  | .w (.tup ws) => k (.w (.tup (cutW ws l h))) st3
  | _ => False) x) x) x
section
variable {X : Cx} {Z : Zx} {E : XS} {e : Expr} {lo hi : Option Expr} {da : DE} {dlo dhi : DO} {pos p2 : Pos}
theorem pd_cutS (he : PD X Z E e da) (hl : POD X Z E lo dlo) (hu : POD X Z E hi dhi) : PD X Z E (.Subscript e (.Slice lo hi none p2) pos) (dCutS da dlo dhi) := by
  refine pe_weak (pe_slice (SlR.or sl_str sl_tupA) he hl hu) fun σ H Q q => ?_
  obtain ⟨H0, F, G, pv, st, k, kx, wd, ss, hd, hk, hx⟩ := q
  refine tE_seq wd ss hx hd fun H1 G1 H1' st1 v r e1 wd1 ss1 rr k1 => ?_
  refine ⟨H1, F, G1, pv, st1, _, kx, wd1, ss1, k1, fun H2 G2 H2' st2 l e2 wd2 ss2 k2 => ?_, hx.up e1⟩
  refine ⟨H2, F, G2, pv, st2, _, kx, wd2, ss2, k2, fun H3 G3 H3' st3 h e3 wd3 ss3 k3 => ?_, hx.up (e1.trans e2)⟩
  cases rr with
  | pk _ => exact k3.elim
  | w rv =>
    cases rv with
    | str => exact .inl ⟨_, rfl, k3.1, hk _ _ _ _ _ _ (e1.trans (e2.trans e3)) wd3 ss3 (.w .str) k3.2⟩
    | @tup _ xs ws hs rs =>
      have hs3 := Evl.ex_t (e2.trans e3) hs
      have rs3 := rs.mono (e2.trans e3)
      refine .inr ⟨_, _, rfl, Evl.ex_t wd3.ex hs3, fun hw => ?_, fun hw p hp => ?_⟩
      · refine hk _ _ _ _ _ _ (e1.trans (e2.trans e3)) wd3 ss3 (.w (.tup hs3 ?_)) k3
        have := rs3.cut l h
        unfold cutV at this
        rw [hw.1, hw.2, List.drop_zero, Nat.sub_zero, List.take_length] at this
        exact this
      · have g := Gr.one (o := .tup (cutV xs l h)) wd3.ex hp
        exact hk _ _ _ _ _ _ (e1.trans (e2.trans (e3.trans g.e0))) (wd3.grow g) (ss3.mono g.e0) (.w (.tup (.of upd_same) ((rs3.cut l h).mono g.e0))) k3
    | _ => exact k3.elim
end
end Y
namespace Y
open PySem L2
open PySem.Spec PyProof.Rows
open Evl (Ex)
/-! ### len(range(a, b)), len(range(n)) -/
section
variable {X : Cx} {Z : Zx} {E : XS} {a b : Expr} {da db : DE} {pos pr p1 p2 : Pos}
def rgN (i j : Int) : Int := if i < j then j - i else 0
def rLenRg : List V → Hp → VK → Prop := fun vs H Q => ∃ p i j, vs = [V.ref p] ∧ H p = some (.rng i j) ∧ j - i < 2 ^ 63 ∧ Q (.int (rgN i j)) H
theorem call_lenRg : CallR X (.builtin "len") rLenRg := by
  intro pins s σ H vs us Q I r h
  obtain ⟨p, i, j, rfl, hp, hb, q⟩ := h
  obtain ⟨u, rfl, ru⟩ := vals1 r
  cases ru
  obtain ⟨t, u, v, ho⟩ := I.hok p _ hp
  have e : Builtin.Range.rangeSize i j 1 = rgN i j := by
    unfold Builtin.Range.rangeSize rgN
    rw [if_pos (by decide)]
    split <;> simp
  have h0 : 0 ≤ rgN i j := by unfold rgN; split <;> omega
  have h1 : rgN i j < 2 ^ 63 := by unfold rgN; split <;> omega
  refine call_len_range (n := (rgN i j).toNat) ho (by rw [e]; omega) (by omega) ?_
  have e2 : (((rgN i j).toNat : Nat) : Int) = rgN i j := by omega
  rw [e2]
  exact ⟨.int (rgN i j), H, I.tok _, ⟨_, rfl⟩, q⟩
def dLenRg2 (a b : DE) : DE := fun st k x => a st (fun r1 st1 => b st1 (fun r2 st2 => match r1, r2 with
  | .w (.int i), .w (.int j) => j - i < 2 ^ 63 ∧ k (.w (.int (rgN i j))) st2
  | _, _ => False) x) x
theorem pd_lenRg2 (hg : Gl X "len") (hm : X.mg "len" = none) (hg2 : Gl X "range") (hm2 : X.mg "range" = none) (ha : PD X Z E a da) (hb : PD X Z E b db)
    (hs : starEach [a, b] X.env = (false, eval a X.env) :: starEach [b] X.env := by rfl) (hpl : (backTo pr (starEach [b] X.env)).any (·.1) = false := by rfl) (hs2 : starEach [b] X.env = (false, eval b X.env) :: starEach [] X.env := by rfl)
    (he : starEach [.Call (.Name "range" p2) [a, b] [] pr] X.env = (false, eval (.Call (.Name "range" p2) [a, b] [] pr) X.env) :: starEach [] X.env := by rfl) (hpl2 : (backTo pos (starEach [] X.env)).any (·.1) = false := by rfl) :
    PD X Z E (.Call (.Name "len" p1) [.Call (.Name "range" p2) [a, b] [] pr] [] pos) (dLenRg2 da db) := by
  refine pe_weak (pe_callB call_lenRg hg hm (by decide +kernel) (pa_cons (pe_callTy cr_range2 hg2 hm2 (by decide +kernel) (pa_cons ha (pa_cons hb pa_nil hs2) hs) (by decide) (by decide) hs hpl) pa_nil he) (by decide) (by decide) he hpl2) fun σ H Q q => ?_
  obtain ⟨H0, F, G, pv, st, k, kx, wd, ss, hd, hk, hx⟩ := q
  refine tE_seq wd ss hx hd fun H1 G1 H1' st1 v1 r1 e1 wd1 ss1 rr1 k1 => ?_
  refine tE_seq wd1 ss1 (hx.up e1) k1 fun H2 G2 H2' st2 v2 r2 e2 wd2 ss2 rr2 k2 => ?_
  cases rr1 with
  | pk _ => exact k2.elim
  | w rv1 =>
    cases rr2 with
    | pk _ => cases rv1 <;> exact k2.elim
    | w rv2 =>
      cases rv1 with
      | @int i =>
        cases rv2 with
        | @int j =>
          refine ⟨_, _, rfl, fun p hp => ⟨p, _, _, rfl, upd_same, k2.1, ?_⟩⟩
          have g := Gr.one (o := .rng i j) wd2.ex hp
          exact hk _ _ _ _ _ _ (e1.trans (e2.trans g.e0)) (wd2.grow g) (ss2.mono g.e0) (.w .int) k2.2
        | _ => exact k2.elim
      | _ => cases rv2 <;> exact k2.elim
end
end Y
/-! ### own errors whose base has its own __init__ but another base's __new__ (KeyError) -/
namespace YKX
open PySem PySem.HandSPX
open Sem (wp)
/-- what the making of an error of a class must do -/
def MakeOk (newId : String) (bmB : List Value) : Prop := ∀ {prog : Program} {w : World} {A : Around} {R : Result → Shared → Prop} {h : Heap} {g : Array GenState} {d : Drawn} {t : Nat} {os : OsState}
  {nm q : Str} {C N : Addr} {bs bm : List Value} {hdct : Bool} {sn : List Str} {sub : List Value} {ab : Bool} {col : Option Bool} {dd : Option Addr} {k0 k1 k2 k3 k5 : Option Value} {rest : List Value} {fI : Addr}
  (_ : ∀ X : String, bm.contains (.type X) = bmB.contains (.type X))
  (_ : h.get? C = some (excClassObj nm q C N bs bm hdct sn sub ab col dd k0 k1 k2 k3 k5 newId))
  (_ : W.Looks (model prog w) h (typeLookup (.ref C) "__init__") (some (.ref fI))) (_ : ∀ self, W.Looks (model prog w) h (bindSpecial (.ref fI) self) (.ref fI, [self])) (_ : rest.length ≤ sizeLine)
  (_ : codeAny (model prog w) (A.under (.builtin "type.__call__" ⟨.ref C :: rest, []⟩)) (.call (.ref fI) ⟨.ref (h.objs.size + 1) :: rest, []⟩) (W.InitBack (h.objs.size + 1) R)
    ⟨(h.push (W.kdv_tup rest)).push (excO C h.objs.size), g, d, t, os⟩),
  codeAny (model prog w) A (.call (.ref C) ⟨rest, []⟩) R ⟨h, g, d, t, os⟩
/-- what B.__init__(e, ..) must do -/
def InitOk (newId initId : String) (bmB : List Value) : Prop := ∀ {prog : Program} {w : World} {A : Around} {R : Result → Shared → Prop} {h : Heap} {g : Array GenState} {d : Drawn} {t : Nat} {os : OsState}
  {nm q : Str} {C N : Addr} {bs bm : List Value} {hdct : Bool} {sn : List Str} {sub : List Value} {ab : Bool} {col : Option Bool} {dd : Option Addr} {k0 k1 k2 k3 k5 : Option Value} {e t0 : Addr} {rest : List Value}
  (_ : ∀ X : String, bm.contains (.type X) = bmB.contains (.type X))
  (_ : h.get? C = some (excClassObj nm q C N bs bm hdct sn sub ab col dd k0 k1 k2 k3 k5 newId)) (_ : h.get? e = some (excO C t0)) (_ : rest.length ≤ sizeLine)
  (_ : ∀ h' t1, (∀ b o, b ≠ e → h.get? b = some o → h'.get? b = some o) → h'.get? e = some (excO C t1) → R (.ok (.ret .none)) ⟨h', g, d, t, os⟩),
  codeAny (model prog w) A (.call (.builtin initId) ⟨.ref e :: rest, []⟩) R ⟨h, g, d, t, os⟩
theorem make_of {B newId initId : String} {bmB : List Value} (F : ExcBaseFacts B newId initId bmB) : MakeOk newId bmB := fun hT hC hi hb hr hq => call_own F hT hC hi hb hr hq
theorem init_of {B newId initId : String} {bmB : List Value} (F : ExcBaseFacts B newId initId bmB) : InitOk newId initId bmB := fun hT hC he hr hq => init_base F hT hC he hr hq

section
variable {M : Model} {A : Around} {E : Value → Shared → Prop} {h : Heap} {g : Array GenState} {d : Drawn} {t : Nat} {os : OsState}
variable {nm q : Str} {C N : Addr} {bs bm bmB bmN : List Value} {hdct : Bool} {sn : List Str} {sub : List Value} {ab : Bool} {col : Option Bool} {dd : Option Addr} {k0 k1 k2 k3 k5 : Option Value} {Bn newId inN : String}
theorem check_new2 (F : ExcBaseFacts Bn newId inN bmN) (hBn : bmB.contains (.type Bn) = true) (hT : ∀ X : String, bm.contains (.type X) = bmB.contains (.type X)) {rest : List Value} {Q : Unit → Shared → Prop}
    (hC : h.get? C = some (excClassObj nm q C N bs bm hdct sn sub ab col dd k0 k1 k2 k3 k5 newId)) (hq : Q () ⟨h, g, d, t, os⟩) : wpAny M A (checkBuiltinCall newId ⟨.ref C :: rest, []⟩) Q E ⟨h, g, d, t, os⟩ := by
  have hcont : (Value.ref C :: bm).contains (.type Bn) = true := by rw [List.contains_cons, hT, hBn, Bool.or_true]
  have hstar := F.noStar
  simp only [checkBuiltinCall, F.newKind, F.newSplit, F.newRow]
  repeat (first | refine wpAny_loadPart_at hC ?_ | (refine wpAny_isSubtype_exc hC ?_; rw [hcont]) | refine wpAny_staticBase_exc hC ?_ | refine wpAny_madeBy_exc hC ?_ | simp only [bne_self_eq_false, Bool.false_eq_true, if_false] | wp_step)
  exact hq
end
section
variable {prog : Program} {w : World} {A : Around} {E : Value → Shared → Prop} {R : Result → Shared → Prop} {h : Heap} {g : Array GenState} {d : Drawn} {t : Nat} {os : OsState}
variable {nm q : Str} {C N : Addr} {bs bm bmB bmN : List Value} {hdct : Bool} {sn : List Str} {sub : List Value} {ab : Bool} {col : Option Bool} {dd : Option Addr} {k0 k1 k2 k3 k5 : Option Value} {Bn newId inN : String}
theorem new2 (F : ExcBaseFacts Bn newId inN bmN) (hBn : bmB.contains (.type Bn) = true) (nA : bmB.contains (.type "AttributeError") = false) (nN : bmB.contains (.type "NameError") = false) (hT : ∀ X : String, bm.contains (.type X) = bmB.contains (.type X)) {rest : List Value}
    (hC : h.get? C = some (excClassObj nm q C N bs bm hdct sn sub ab col dd k0 k1 k2 k3 k5 newId))
    (hq : R (.ok (.ret (.ref (h.objs.size + 1)))) ⟨(h.push { cls := .type "tuple", data := .seq rest.toArray }).push
      { cls := .ref C, data := .fields #[.ref h.objs.size, .none, .none, .none, .bool false, .none] }, g, d, t, os⟩) (hrest : rest.length ≤ sizeLine) :
    codeAny (model prog w) A (.builtin newId ⟨.ref C :: rest, []⟩) R ⟨h, g, d, t, os⟩ := by
  have hends := F.ends
  have hcB : (Value.ref C :: bm).contains (.type Bn) = true := by rw [List.contains_cons, hT, hBn, Bool.or_true]
  have hcA : (Value.ref C :: bm).contains (.type "AttributeError") = false := by rw [List.contains_cons, hT, nA]; rfl
  have hcN : (Value.ref C :: bm).contains (.type "NameError") = false := by rw [List.contains_cons, hT, nN]; rfl
  refine codeAny_builtinAt F.entry ?_
  unfold Builtin.«BaseException.__new__»
  refine wpAt_bind ?_
  show wpAt _ _ _ (stack >>= _) _ _ _
  refine wpAt_bind (wpAt_stack fun p below => wpAt_of_wpAny ?_)
  wp_walk
  refine wpAt_of_wpAny ?_
  rw [F.owner]
  repeat (first | with_reducible refine wpAny_madeHere_exc F.canon hC ?_ | with_reducible refine wpAny_loadPart_at hC ?_ | (with_reducible refine wpAny_isSubtype_exc hC ?_; first | rw [hcB] | rw [hcA] | rw [hcN]) | wp_step)
  show R _ _
  rw [Heap.size_push]
  exact hq
theorem type_call2 (F : ExcBaseFacts Bn newId inN bmN) (hBn : bmB.contains (.type Bn) = true) (nA : bmB.contains (.type "AttributeError") = false) (nN : bmB.contains (.type "NameError") = false) (hT : ∀ X : String, bm.contains (.type X) = bmB.contains (.type X)) {rest : List Value} {fI : Addr} {Q : Fin → Shared → Prop}
    (hC : h.get? C = some (excClassObj nm q C N bs bm hdct sn sub ab col dd k0 k1 k2 k3 k5 newId))
    (hi : W.Looks (model prog w) h (typeLookup (.ref C) "__init__") (some (.ref fI))) (hb : ∀ self, W.Looks (model prog w) h (bindSpecial (.ref fI) self) (.ref fI, [self])) (hrest : rest.length ≤ sizeLine)
    (hq : codeAny (model prog w) A (.call (.ref fI) ⟨.ref (h.objs.size + 1) :: rest, []⟩)
      (fun r s' => match r with | .ok (.ret v) => v = .none ∧ Q (.done (.ret (.ref (h.objs.size + 1)))) s' | .ok _ => False | .error e => E e s')
      ⟨(h.push (W.kdv_tup rest)).push (excO C h.objs.size), g, d, t, os⟩) :
    wpAny (model prog w) A (Builtin.«type.__call__» ⟨.ref C :: rest, []⟩) Q E ⟨h, g, d, t, os⟩ := by
  repeat (first | with_reducible refine wpAny_loadPart_at hC ?_ | with_reducible refine wpAny_madeBy_exc hC ?_ | wp_step)
  refine codeAny_call_builtin_code (Code.quiet_builtin _ F.quiet) (check_new2 F hBn hT hC ?_)
  refine new2 F hBn nA nN hT hC ?_ hrest
  show wpAny _ _ _ _ _ _
  have k : ∀ b o, h.get? b = some o → ((h.push (W.kdv_tup rest)).push (excO C h.objs.size)).get? b = some o := fun b o e => Heap.get?_push_of_some _ (Heap.get?_push_of_some _ e)
  have hC₁ := k _ _ hC
  have hget : ((h.push (W.kdv_tup rest)).push (excO C h.objs.size)).get? (h.objs.size + 1) = some (excO C h.objs.size) := by heap_get
  have hcC : (Value.ref C :: bm).contains (.ref C) = true := by simp
  have i1 := hi.keeps k
  have b1 := (hb (.ref (h.objs.size + 1))).keeps k
  unfold isInstance
  repeat (first | with_reducible refine wpAny_loadPart_at hget ?_ | (with_reducible refine wpAny_isSubtype_exc hC₁ ?_; rw [hcC]) | wp_step)
  show wpAny _ _ (typeLookup (.ref C) _) _ _ _
  refine i1.at ?_
  refine wpAny_holding (wpAny_bind (b1.at ?_))
  refine wpAny_bind (wpAny_call (codeAny_mono hq fun r s' z => ?_))
  rcases r with e | (v | _ | _ | _) <;> first | exact z | exact z.elim | skip
  obtain ⟨rfl, z⟩ := z
  first
    | exact wpAny_pure (wpAny_pure z)
    | (wp_walk; exact z)
theorem make2 (F : ExcBaseFacts Bn newId inN bmN) (hBn : bmB.contains (.type Bn) = true) (nA : bmB.contains (.type "AttributeError") = false) (nN : bmB.contains (.type "NameError") = false) : MakeOk newId bmB := by
  intro prog w A R h g d t os nm q C N bs bm hdct sn sub ab col dd k0 k1 k2 k3 k5 rest fI hT hC hi hb hrest hq
  have f1 := tc_lookup
  have f2 := tc_bind (.ref C)
  have hTy : (⟨h, g, d, t, os⟩ : Shared).TypeIs (.ref C) "type" := ⟨_, hC, rfl⟩
  refine codeAny_of_tree ?_
  show wpAny _ _ (callAny (.ref C) _) _ _ _
  repeat (any_goals (first | assumption | with_reducible refine wpAny_loadPart_at hC ?_ | wp_step))
  refine ⟨rfl, ?_⟩
  refine codeAny_call_builtin_at (Code.quiet_builtin _ (by decide +kernel)) entry_typeCall (wpAny_check_type_call_sub hC (type_call2 F hBn nA nN hT hC hi hb hrest ?_))
  refine codeAny_mono hq fun r s' z => ?_
  rcases r with e | (v | _ | _ | _) <;> exact z
end
/-! ### KeyError -/
abbrev bmK : List Value := [.type "KeyError", .type "LookupError", .type "Exception", .type "BaseException", .type "object"]
theorem make_KeyError : MakeOk "LookupError.__new__" bmK := make2 F.excBase_LookupError (by decide +kernel) (by decide +kernel) (by decide +kernel)
theorem slot_KeyError : Slot "KeyError" "__init__" "KeyError.__init__" := .of (owner := "KeyError") (n := "__init__") (by rw [typeLookup_type, builtinLookup_eq_fast]; kernel_rfl) (by decide +kernel) (by decide +kernel) (by decide +kernel)
    (by first | exact .inl (by decide +kernel) | exact .inr (by decide +kernel)) (by rw [isSubtype_type]; kernel_rfl)
theorem entry_KeyError : entryFor table "KeyError.__init__" = some Builtin.«BaseException.__init__» := entryFor_alias (id' := "BaseException.__init__") (by rw [fastTable_eq_tree]; kernel_rfl) (by first | rfl | decide +kernel) (by decide +kernel) (by rw [fastTable_eq_tree]; kernel_rfl)
theorem split_KeyError : splitId "KeyError.__init__" = some ("KeyError", "__init__") := by kernel_rfl
theorem kind_KeyError : builtinKind "KeyError.__init__" = some .slot := by kernel_rfl
theorem row_KeyError : Manifest.signature? "KeyError.__init__" = some ⟨.positional, "*", "KeyError", .self, [⟨"args", .varPos, false⟩]⟩ := by kernel_rfl
section
variable {M : Model} {A : Around} {E : Value → Shared → Prop} {h : Heap} {g : Array GenState} {d : Drawn} {t : Nat} {os : OsState}
variable {nm q : Str} {C N : Addr} {bs bm : List Value} {hdct : Bool} {sn : List Str} {sub : List Value} {ab : Bool} {col : Option Bool} {dd : Option Addr} {k0 k1 k2 k3 k5 : Option Value} {newId : String}
theorem check_initK (hT : ∀ X : String, bm.contains (.type X) = bmK.contains (.type X)) {e : Addr} {oe : Obj} {rest : List Value} {Q : Unit → Shared → Prop}
    (hC : h.get? C = some (excClassObj nm q C N bs bm hdct sn sub ab col dd k0 k1 k2 k3 k5 newId)) (he : h.get? e = some oe) (hcls : oe.cls = .ref C) (hq : Q () ⟨h, g, d, t, os⟩) :
    wpAny M A (checkBuiltinCall "KeyError.__init__" ⟨.ref e :: rest, []⟩) Q E ⟨h, g, d, t, os⟩ := by
  have hcB : (Value.ref C :: bm).contains (.type "KeyError") = true := by rw [List.contains_cons, hT, show bmK.contains (.type "KeyError") = true by decide +kernel, Bool.or_true]
  have hshort : ("KeyError" != "*") = true := by decide +kernel
  simp only [checkBuiltinCall, kind_KeyError, split_KeyError, row_KeyError]
  repeat (first | (with_reducible refine wpAny_loadPart_at he ?_; rw [hcls]) | with_reducible refine wpAny_loadPart_at hC ?_ | (with_reducible refine wpAny_isSubtype_exc hC ?_; rw [hcB]) | wp_step)
  refine wpAny_onRaise ?_
  rw [show ∀ (a b : String) (n : Nat), Bind.check ⟨.positional, "*", "KeyError", .self, [⟨"args", .varPos, false⟩]⟩ a b n (List.map (fun x => x.fst) ({ pos := Value.ref e :: rest } : Args).kw) = pure () from
    fun a b n => check_star_args _ _ _ _ _ _]
  exact wpAny_pure hq
end
theorem init_KeyError {newId : String} : InitOk newId "KeyError.__init__" bmK := by
  intro prog w A R h g d t os nm q C N bs bm hdct sn sub ab col dd k0 k1 k2 k3 k5 e t0 rest hT hC he hrest hq
  refine codeAny_call_builtin slot_KeyError.plain entry_KeyError (check_initK hT hC he rfl ?_)
  wp_walk
  refine hq _ h.objs.size (fun b o hb ho => ?_) ?_
  · rw [Heap.get?_update_other _ _ (Ne.symm hb)]
    exact Heap.get?_push_of_some _ ho
  · rw [Heap.get?_update_self _ (Heap.get?_push_of_some _ he) rfl]
    rfl
theorem store_KeyError : StoreFacts "KeyError" bmK "object.__setattr__" "object" where
  mro := by kernel_rfl
  slot := .of (owner := "object") (n := "__setattr__") (by rw [typeLookup_type, builtinLookup_eq_fast]; kernel_rfl) (by decide +kernel) (by decide +kernel) (by decide +kernel)
    (by first | exact .inl (by decide +kernel) | exact .inr (by decide +kernel)) (by rw [isSubtype_type]; kernel_rfl)
  entry := PySem.F.store_LookupError.entry
  kind := by decide +kernel
  split := by decide +kernel
  hasOwner := by decide +kernel
  args := fun a b c => by unfold argsOk; kernel_rfl
  passes := fun self => by kernel_rfl
end YKX
namespace Y
open PySem L2
open PySem.Spec PyProof.Rows
open Evl (Ex)
/-! ### errors of one's own over any base -/
/-- the facts of a base -/
structure EB (B newId initId : String) (bmB : List Value) : Prop where
  mak : YKX.MakeOk newId bmB
  ini : YKX.InitOk newId initId bmB
  sf : StoreFacts B bmB "object.__setattr__" "object"
  ty : typeOf (.type B) = pure (.type "type")
  stub : Manifest.isStub B = false
  hand : PySem.W.handedIn (.builtin initId) = true
  boot : bootBuiltins (Str.ofString B) = some (.type B)
  nn : Str.ofString B ≠ "__name__"
  nd : (Str.ofString B == ("__debug__" : Str)) = false
theorem eb_ValueError : EB "ValueError" "ValueError.__new__" "ValueError.__init__" [.type "ValueError", .type "Exception", .type "BaseException", .type "object"] := ⟨YKX.make_of F.excBase_ValueError, YKX.init_of F.excBase_ValueError, F.store_ValueError, by kernel_rfl, by decide +kernel, by decide +kernel, by decide +kernel, by decide +kernel, by decide +kernel⟩
theorem eb_KeyError : EB "KeyError" "LookupError.__new__" "KeyError.__init__" YKX.bmK := ⟨YKX.make_KeyError, YKX.init_KeyError, YKX.store_KeyError, by kernel_rfl, by decide +kernel, by decide +kernel, by decide +kernel, by decide +kernel, by decide +kernel⟩
/-- a class over it -/
structure OexK (K : PySem.W.Frag) (C : Addr) (bmB : List Value) (newId : String) : Prop where
  ini : PySem.W.excInitIn K C bmB newId = true
  ov : PySem.W.excOver K C bmB = true
  hd : PySem.W.hasDictIn K C = true
  sa : PySem.W.findIn K (.ref C) "__setattr__" = some (some (.builtin "object.__setattr__"))
  exC : PySem.W.subIn K (.ref C) (.type "BaseException") = some true
  tyC : PySem.W.typeIn K (.ref C) = some (.type "type")
  kC : PySem.W.keepIn K (.ref C) = true
section
variable {X : Cx} {pins : List (Addr × Obj)} {σ : L2.St} {H : Hp} {s : Shared} {a C dx : Addr} {f : Str} {y : V} {u : Value} {fs : List (Str × V)} {Q : Unit → Shared → Prop} {E : Value → Shared → Prop} {A : Around} {B newId initId : String} {bmB : List Value}
theorem taker_none {K : PySem.W.Frag} (h : PySem.W.findIn K (.ref C) f = some none) : PySem.W.takerIn K C f = some none := by
  unfold PySem.W.takerIn
  rw [h]
  rfl
/-- self.f = y, the first one -/
theorem est_new (eb : EB B newId initId bmB) (T : OexK X.K C bmB newId) (I : Inv X pins σ H s) (e : H a = some (exo a C none)) (hno : PySem.W.findIn X.K (.ref C) f = some none) (ry : RelV y u)
    (h : ∀ dx s', H dx = none → dx ≠ a → Inv X pins σ (upd (upd H dx (exd dx [(f, y)])) a (exo a C (some dx))) s' → Q () s') : wpAny (model X.prog X.w) A (setAttr (.ref a) f u) Q E s := by
  obtain ⟨t1, ho⟩ := exo_at I.hok e
  obtain ⟨cd, hc, hd'⟩ := PySem.W.any_some T.hd
  obtain ⟨hp, g, d, t, os⟩ := s
  have inst : PySem.W.InstAt hp a { cls := .ref C, dict := none, data := .fields #[.ref t1, .none, .none, .none, .bool false, .none] } C none := ⟨ho, rfl, rfl, trivial⟩
  have lt : a < hp.objs.size := Heap.lt_size ho
  refine PySem.W.set_plain I.kIn inst T.sa ?_
  refine PySem.W.osa_openX (od := none) eb.sf I.kIn inst T.ov (taker_none hno) fun b => ?_
  refine wpAny_bind (wpAny_pure (wpAny_bind (PySem.W.instanceDict_exc (c2 := .none) ho (PySem.W.looks_clsIn I.kIn hc) hd' ?_)))
  refine PySem.HandSPX.store_in_new ⟨_, #[], _, (Heap.get?_update_ne _ _ _ _ (Nat.ne_of_gt lt)).trans (Heap.get?_push_at rfl rfl), rfl, fun e he => absurd he (by simp), fun _ => rfl⟩ fun h' tk' hn hs => ?_
  have ha1 : (hp.push ({ cls := .type "dict", data := .dict #[] } : Obj)).get? a = some { cls := .ref C, dict := none, data := .fields #[.ref t1, .none, .none, .none, .bool false, .none] } := Heap.get?_push_of_some _ ho
  have k : ∀ b o, b ≠ a → hp.get? b = some o → h'.get? b = some o := fun b o hb hbo =>
    (hs.2 b (Nat.ne_of_lt (Heap.lt_size hbo))).trans ((Heap.get?_update_ne _ _ _ _ hb).trans (Heap.get?_push_of_some _ hbo))
  have hx : h'.get? a = some { cls := .ref C, dict := some hp.objs.size, data := .fields #[.ref t1, .none, .none, .none, .bool false, .none] } := (hs.2 a (Nat.ne_of_lt lt)).trans (Heap.get?_update_self _ ha1 rfl)
  have hnd : H hp.objs.size = none := I.hok.fresh (Nat.le_refl _)
  have far : ∀ {b : Addr} {o : Obj}, hp.get? b = some o → b ≠ hp.objs.size := fun q => Nat.ne_of_lt (Heap.lt_size q)
  have na : ∀ {b : Addr}, H b = none → b ≠ a := fun n z => by rw [z, e] at n; cases n
  have un : Un X.fs [] H (upd (upd H hp.objs.size (exd hp.objs.size [(f, y)])) a (exo a C (some hp.objs.size))) hp h' := {
    keep := fun b o q n _ _ => k b o (na n) q
    slot := fun b o q n _ _ => ⟨o.slots, k b o (na n) q⟩
    free := fun b o q n _ => by rw [upd_ne (na n), upd_ne (far q)]; exact n
    there := fun b o q _ => by
      by_cases hb : b = a
      · exact ⟨_, by rw [hb]; exact hx⟩
      · exact ⟨o, k b o hb q⟩
    tups := fun b xs q => by rw [upd_ne (at_ne e q exo_tup), upd_ne (ne_of_none q hnd)]; exact q
    frzs := fun b o v q => by rw [upd_ne (at_ne e q exo_frz), upd_ne (ne_of_none q hnd)]; exact q
    tbls := fun b ps q => ⟨#[], by rw [upd_ne (at_ne e q exo_tbl), upd_ne (ne_of_none q hnd), q]; simp⟩ }
  refine h hp.objs.size _ hnd (Nat.ne_of_gt lt) (I.un (t' := tk') un fun b o q => ?_)
  by_cases hb : b = a
  · subst hb
    rw [upd_same] at q
    cases q
    exact exo_ok hx
  · rw [upd_ne hb] at q
    by_cases hd : b = hp.objs.size
    · subst hd
      rw [upd_same] at q
      cases q
      exact exd_ok hn (relO_put (fs := []) ry fun g => True.intro)
    · rw [upd_ne hd] at q
      refine (I.hok b o q).stay (fun c v hc z => k c v ?_ z) (fun c hc => ?_) (fun c xs hc => ?_)
      · rcases hc with hc | hc
        · rw [hc]; exact hb
        · exact at_ne e hc exo_own
      · rw [upd_ne (at_ne e hc exo_own), upd_ne (ne_of_none hc hnd)]; exact hc
      · rw [upd_ne (at_ne e hc exo_tup), upd_ne (ne_of_none hc hnd)]; exact hc
/-- self.f = y, a further one -/
theorem est_old (eb : EB B newId initId bmB) (T : OexK X.K C bmB newId) (I : Inv X pins σ H s) (e : H a = some (exo a C (some dx))) (ed : H dx = some (exd dx fs)) (hl : fs.length ≤ 900) (hno : PySem.W.findIn X.K (.ref C) f = some none) (ry : RelV y u)
    (h : ∀ s', Inv X pins σ (upd H dx (exd dx ((f, y) :: fs))) s' → Q () s') : wpAny (model X.prog X.w) A (setAttr (.ref a) f u) Q E s := by
  obtain ⟨t1, ho⟩ := exo_at I.hok e
  obtain ⟨mA, hns, rel⟩ := exd_at I.hok ed
  have hw := within_of rel
  obtain ⟨cd, hc, hd'⟩ := PySem.W.any_some T.hd
  obtain ⟨hp, g, d, t, os⟩ := s
  obtain ⟨oD, _, _, hoD, _, _⟩ := hns.count hw
  have inst : PySem.W.InstAt hp a { cls := .ref C, dict := some dx, data := .fields #[.ref t1, .none, .none, .none, .bool false, .none] } C (some oD) := ⟨ho, rfl, rfl, hoD⟩
  refine PySem.W.set_plain I.kIn inst T.sa ?_
  refine PySem.W.osa_openX (od := some oD) eb.sf I.kIn inst T.ov (taker_none hno) fun b => ?_
  refine wpAny_bind (wpAny_pure (wpAny_bind (wpAny_bind (wpAny_loadPart ho ?_))))
  have L : PySem.W.Looks (model X.prog X.w) hp (classData C) cd := PySem.W.looks_clsIn I.kIn hc
  refine wpAny_bind (L.at ?_)
  rw [hd']
  refine wpAny_pure (a := some dx) ?_
  refine PySem.OEX.store_in_old hns hw (by rw [List.length_map]; omega) fun h' tk' hn hs => ?_
  have there : ∃ o, h'.get? dx = some o := by
    obtain ⟨o, _, _, e', _⟩ := hn
    exact ⟨o, e'⟩
  exact h _ (I.write (t' := tk') (x := dx) (e := dx) (o := exd dx ((f, y) :: fs)) (by rw [ed]; exact True.intro) (.inl rfl) (fun b o hb hbo => (hs.2 b hb).trans hbo) there (exd_ok hn (relO_put ry rel)))
/-- B.__init__(self, ..): nothing of it is told -/
theorem einit_ok {us : List Value} {Q : Value → Shared → Prop} (eb : EB B newId initId bmB) (T : OexK X.K C bmB newId) (I : Inv X pins σ H s) (e : H a = some (exo a C none)) (hl : us.length ≤ sizeLine) (h : ∀ s', Inv X pins σ H s' → Q .none s') :
    wpAny (model X.prog X.w) A (call (.builtin initId) (.ref a :: us)) Q E s := by
  obtain ⟨nm, N, q, bs, bm, hdct, sn, sub, ab, col, dd, k0, k1, k2, k3, k5, hC, hT⟩ := PySem.W.excInit_of I.kIn T.ini
  obtain ⟨t1, ho⟩ := exo_at I.hok e
  obtain ⟨hp, g, d, t, os⟩ := s
  refine wpAny_call (eb.ini hT hC ho hl fun h' t2 k hx => ?_)
  have J := I.write (t' := t) (x := a) (e := a) (o := exo a C none) (by rw [e]; exact True.intro) (.inl rfl) k ⟨_, hx⟩ (exo_ok hx)
  have same : upd H a (exo a C none) = H := by
    funext b
    by_cases hb : b = a
    · rw [hb, upd_same, e]
    · rw [upd_ne hb]
  rw [same] at J
  exact h _ J
end
end Y
namespace Y
open PySem L2
open PySem.Spec PyProof.Rows
open Evl (Ex)

/-! ### an error's __init__, and its making -/
section
variable {X : Cx} {o e : Expr} {es : List Expr} {to te : TE} {ta : TA} {f : Str} {p p' p1 p2 pos : Pos} {B newId initId : String} {bmB : List Value}
/-- B.__init__(self, ..) -/
def tBi (K : PySem.W.Frag) (bmB : List Value) (newId : String) (ta : TA) : TE := fun σ H Q => ta σ H fun vs H1 => ∃ (a C : Addr) (ws : List V), vs = .ref a :: ws ∧ ws.length ≤ 1000 ∧ OexK K C bmB newId ∧ H1 a = some (exo a C none) ∧ Q .non H1
/-- self.f = e -/
def tEs (K : PySem.W.Frag) (bmB : List Value) (newId : String) (f : Str) (to te : TE) : TS := fun D σ H => te σ H fun y H1 => to σ H1 fun x H2 => ∃ a C : Addr, x = .ref a ∧ OexK K C bmB newId ∧ PySem.W.findIn K (.ref C) f = some none ∧
  ((H2 a = some (exo a C none) ∧ ∀ dx, H2 dx = none → dx ≠ a → D.nx σ (upd (upd H2 dx (exd dx [(f, y)])) a (exo a C (some dx)))) ∨
    ∃ (dx : Addr) (fs : List (Str × V)), H2 a = some (exo a C (some dx)) ∧ H2 dx = some (exd dx fs) ∧ fs.length ≤ 900 ∧ D.nx σ (upd H2 dx (exd dx ((f, y) :: fs))))
theorem pe_binit {pl : Sem Bool} (eb : EB B newId initId bmB) (hg : Gl X (Str.ofString B)) (hm : X.mg (Str.ofString B) = none) (vV : PySem.W.findCls X.K (.type B) (.type "type") "__init__" = some (.val (.builtin initId))) (ha : PA X (e :: es) ta)
    (hc : eval (.Call (.Attribute (.Name (Str.ofString B) p1) "__init__" p2) (e :: es) [] pos) X.env = (do
      let ov ← eval (.Name (Str.ofString B) p1) X.env
      standAt p2.atName
      let (f, first) ← holding [ov] (getMethod ov "__init__" pl)
      callWith pos f first (backTo pos (starEach (e :: es) X.env)) (backToKw pos (keywordEach [] X.env))) := by rfl)
    (he : starEach (e :: es) X.env = (false, eval e X.env) :: starEach es X.env := by rfl) (hpl : (backTo pos (starEach es X.env)).any (·.1) = false := by rfl) :
    PE X (.Call (.Attribute (.Name (Str.ofString B) p1) "__init__" p2) (e :: es) [] pos) (tBi X.K bmB newId ta) := by
  refine ⟨fun pins s σ H Q I h => ?_⟩
  refine PySem.W.methodCall_KW (ld_blt I hg hm eb.boot ?_ eb.nn eb.nd) hc
  obtain ⟨m, fr⟩ := I.fr
  refine PySem.W.method_type fr I.ok.mod.kin eb.ty eb.stub vV eb.hand ?_
  show wpAny _ _ (callWith pos (Value.builtin initId) [] (backTo pos (starEach (e :: es) X.env)) []) _ _ _
  refine PyProof.Rows.callWith_method1 (thn (ha.run pos pins _ σ H _ (I.tok _) h) fun us s1 ⟨vs, H1, I1, r1, a, C, ws, ev, hl, T, ea, q⟩ => ?_) he hpl
  subst ev
  cases r1 with
  | @cons _ u0 _ ur ra rw' =>
    obtain rfl : u0 = Value.ref a := ra
    have hlen : ur.length ≤ sizeLine := by
      rw [← Paired.length rw', sizeLine_eq]
      omega
    exact einit_ok eb T I1 ea hlen fun s' J => ⟨.non, H1, J, rfl, q⟩
theorem ps_est (eb : EB B newId initId bmB) (ho : PE X o to) (he : PE X e te) (hs : swapsWith e (some (.Attribute o f p')) pos.line X.env = pure false := by rfl) : PS X (.Assign [.Attribute o f p'] e pos) (tEs X.K bmB newId f to te) := by
  refine ⟨fun pins s σ H D I h => ?_⟩
  refine plainObj_wpAny_Assign_Attribute (thn (he.run pins s σ H _ I h) fun v s1 ⟨y, H1, I1, r1, q1⟩ => thn (ho.run pins s1 σ H1 _ I1 q1) fun u s2 ⟨x, H2, I2, r2, a, C, ex, T, hno, q⟩ => ?_) hs
  subst ex
  obtain rfl : u = Value.ref a := r2
  rcases q with ⟨ea, q⟩ | ⟨dx, fs, ea, ed, hl, q⟩
  · exact est_new eb T I2 ea hno r1 fun dx s' n ne J => ⟨σ, _, J, q dx n ne⟩
  · exact est_old eb T I2 ea ed hl hno r1 fun s' J => ⟨σ, _, J, q⟩
theorem pmk_oexK {CX : CXT} {x : Str} {C fI : Addr} {k : Nat} {fd : FuncData} {ps : List Str} {sp : Sp} {ds : List Value} {dvs : List V} (eb : EB B newId initId bmB) (T : OexK X.K C bmB newId) (iC : PySem.W.findIn X.K (.ref C) "__init__" = some (some (.ref fI))) (tI : PySem.W.typeIn X.K (.ref fI) = some (.type "function"))
    (F1 : FnOk X.prog X.w X.K X.mg X.base CX k fI fd ps sp) (hr : Room (k + 1) X.A) (hb : Binds X.K fd ps ds) (hd : Vals dvs ds) (hx : Passes CX X (fun _ _ _ => False)) (hg : Gl X x) (hm : X.mg x = some (.ref C)) (ha : PA X (e :: es) ta)
    (hdb : (x == ("__debug__" : Str)) = false := by decide) (he : starEach (e :: es) X.env = (false, eval e X.env) :: starEach es X.env := by rfl) (hpl : (backTo pos (starEach es X.env)).any (·.1) = false := by rfl) :
    PMk X (.Call (.Name x p) (e :: es) [] pos) (tMkO C sp dvs ta) := by
  intro pins s σ H Q I h
  obtain ⟨nm, N, q, bs, bm, hdct, sn, sub, ab, col, dd, k0, k1, k2, k3, k5, hC, hT⟩ := PySem.W.excInit_of I.kIn T.ini
  refine wpAny_Call_Name_kw (ld_glob I hg hm ?_ hdb)
  refine PySem.W.callWith_K (h₀ := X.base) I.ok.mod.kin T.kC (thn (ha.run pos pins s σ H _ I h) fun us s1 ⟨vs, H1, I1, r1, hz, q1⟩ => ⟨I1.kIn, ?_⟩) he hpl
  obtain ⟨nm, N, q, bs, bm, hdct, sn, sub, ab, col, dd, k0, k1, k2, k3, k5, hC, hT⟩ := PySem.W.excInit_of I1.kIn T.ini
  show wpAny _ _ (call (.ref C) us) _ _ _
  obtain ⟨hp, g, dr, tk, os⟩ := s1
  have hsz : hp.objs.size ≤ hp.objs.size + 1 := Nat.le_succ _
  have hn : H1 (hp.objs.size + 1) = none := I1.hok.fresh hsz
  have hq := q1 (hp.objs.size + 1) hn
  have kk : ∀ b o, hp.get? b = some o → ((hp.push (PySem.W.kdv_tup us)).push (PySem.HandSPX.excO C hp.objs.size)).get? b = some o := fun b o e => Heap.get?_push_of_some _ (Heap.get?_push_of_some _ e)
  have hget : ((hp.push (PySem.W.kdv_tup us)).push (PySem.HandSPX.excO C hp.objs.size)).get? (hp.objs.size + 1) = some (PySem.HandSPX.excO C hp.objs.size) := by heap_get
  have I2 : Inv X pins σ (upd H1 (hp.objs.size + 1) (exo (hp.objs.size + 1) C none)) ⟨(hp.push (PySem.W.kdv_tup us)).push (PySem.HandSPX.excO C hp.objs.size), g, dr, tk, os⟩ :=
    I1.laid (t' := tk) (a := hp.objs.size + 1) (o := exo (hp.objs.size + 1) C none) (h' := (hp.push (PySem.W.kdv_tup us)).push (PySem.HandSPX.excO C hp.objs.size)) kk hsz (exo_ok hget)
  have r2 : Vals (V.ref (hp.objs.size + 1) :: (vs ++ dvs)) (Value.ref (hp.objs.size + 1) :: (us ++ ds)) := .cons rfl (r1.append hd)
  have hl : (Value.ref (hp.objs.size + 1) :: us ++ ds).length = ps.length := by
    have e := r2.length
    rw [F1.len _ _ _ _ hq] at e
    exact e.symm
  have hus : us.length ≤ sizeLine := by
    rw [← Paired.length r1, sizeLine_eq]
    omega
  refine wpAny_call (eb.mak hT hC (PySem.W.looks_findIn I1.kIn iC) (fun self => PySem.W.bind_fn I1.kIn self tI) hus
    (codeAny_mono (F1.run _ X.stack _ _ ⟨Value.ref (hp.objs.size + 1) :: us, []⟩ (Value.ref (hp.objs.size + 1) :: (us ++ ds)) _ _ (fun _ _ _ => False) (hr.make C us []) (I2.env0.make C us []) (hb _ (Value.ref (hp.objs.size + 1) :: us) I2.kIn hl) r2 hq) fun r s' hq' => ?_))
  cases r with
  | error er => exact hx pins σ _ _ er s' I2 hq'
  | ok fl =>
    cases fl with
    | ret u =>
      obtain ⟨v, H2, os2, bare2, un2, hok2, rv, ev, d, fs, ea, ed, hd1, q2⟩ := hq'
      subst ev
      obtain ⟨h2, g2, d2, t2, os'⟩ := s'
      exact ⟨rv, mk_end (raises_own T.exC T.tyC) I1 hsz kk un2 hok2 os2 bare2 ea ed hd1 q2⟩
    | next => exact False.elim hq'
    | brk => exact False.elim hq'
    | cont => exact False.elim hq'
end
/-- the promise of an error's __init__ that stores its arguments -/
def spE (C : Addr) (fs : List Str) : Sp := fun vs H Q _ => ∃ (a : Addr) (ys : List V), vs = .ref a :: ys ∧ ys.length = fs.length ∧ H a = some (exo a C none) ∧ match fs, ys with
  | [f], [y] => ∀ dx, H dx = none → dx ≠ a → Q .non (upd (upd H dx (exd dx [(f, y)])) a (exo a C (some dx)))
  | [f, g], [y, z] => ∀ dx, H dx = none → dx ≠ a → Q .non (upd (upd (upd H dx (exd dx [(f, y)])) a (exo a C (some dx))) dx (exd dx [(g, z), (f, y)]))
  | _, _ => False
theorem spE_len {C : Addr} {fs : List Str} {vs : List V} {H : Hp} {Q : VK} {E : XK} (h : spE C fs vs H Q E) : vs.length = fs.length + 1 := by
  obtain ⟨a, ys, rfl, hl, _⟩ := h
  rw [List.length_cons, hl]
/-- raise C(..) -/
def dRaise (c : Nat) (a : DA) : DS := fun D st => a st (fun rs st1 => match frs' rs with
  | some ws => ws.length = (fldN c).length ∧ D.ex ⟨c, ws.reverse⟩ st1
  | none => False) D.ex
section
variable {X : Cx} {Z : Zx} {E : XS} {e : Expr} {es : List Expr} {ds : DA} {p p2 pos pos' : Pos} {x : Str} {C : Addr} {c : Nat} {B newId initId : String} {bmB : List Value}
theorem del_end {H : Hp} {a dx : Addr} {o u v w : HO} (ha : H a = none) (hd : dx ≠ a) : upd (del (upd (upd (upd H a o) dx u) a v) a) dx w = upd H dx w := by
  funext b
  by_cases h1 : b = dx
  · rw [h1, upd_same, upd_same]
  · rw [upd_ne h1, upd_ne h1]
    by_cases h2 : b = a
    · rw [h2, del_same, ha]
    · rw [del_ne h2, upd_ne h2, upd_ne h1, upd_ne h2]
theorem del_end2 {H : Hp} {a dx : Addr} {o u v u2 w : HO} (ha : H a = none) (hd : dx ≠ a) : upd (del (upd (upd (upd (upd H a o) dx u) a v) dx u2) a) dx w = upd H dx w := by
  funext b
  by_cases h1 : b = dx
  · rw [h1, upd_same, upd_same]
  · rw [upd_ne h1, upd_ne h1]
    by_cases h2 : b = a
    · rw [h2, del_same, ha]
    · rw [del_ne h2, upd_ne h1, upd_ne h2, upd_ne h1, upd_ne h2]
theorem z_raise {CX : CXT} {fI : Addr} {k : Nat} {fd : FuncData} {ps : List Str} {fs : List Str} (eb : EB B newId initId bmB) (T : OexK X.K C bmB newId) (hC : Z.cls c = C) (h12 : fs.length = 1 ∨ fs.length = 2) (hf : fldN c = fs.reverse) (iC : PySem.W.findIn X.K (.ref C) "__init__" = some (some (.ref fI))) (tI : PySem.W.typeIn X.K (.ref fI) = some (.type "function"))
    (F1 : FnOk X.prog X.w X.K X.mg X.base CX k fI fd ps (spE C fs)) (hr : Room (k + 1) X.A) (hb : Binds X.K fd ps []) (hx : Passes CX X (fun _ _ _ => False)) (hg : Gl X x) (hm : X.mg x = some (.ref C)) (hc : X.calm = true) (tk : Takes X fun cls d σ H => E cls d σ H) (ha : PAD X Z E (e :: es) ds)
    (hdb : (x == ("__debug__" : Str)) = false := by decide) (he : starEach (e :: es) X.env = (false, eval e X.env) :: starEach es X.env := by rfl) (hpl : (backTo pos (starEach es X.env)).any (·.1) = false := by rfl) :
    PZ X Z E (.Raise (some (.Call (.Name x p) (e :: es) [] pos)) none pos') (dRaise c ds) := by
  subst hC
  refine ps_weak (ps_raise hc tk (pmk_oexK eb T iC tI F1 hr hb .nil hx hg hm ha hdb he hpl)) fun D σ H q => ?_
  obtain ⟨H0, F, G, pv, st, DD, wd, ss, hd, acc⟩ := q
  refine tA_seq wd ss acc.ex.at hd fun H1 G1 H1' st1 vs rs e1 wd1 ss1 rr k1 => ?_
  cases q1 : frs' rs with
  | none => rw [q1] at k1; exact k1.elim
  | some ws =>
    rw [q1] at k1
    obtain ⟨hl, k1⟩ := k1
    have rws := rr.frs q1
    have hvl : vs.length = fs.length := by rw [rws.length, hl, hf, List.length_reverse]
    have fin : ∀ (dx : Addr) (kv : List (Str × V)), H1' dx = none → kv.map (·.1) = fs.reverse → kv.map (·.2) = vs.reverse → E (.ref (Z.cls c)) (some dx) σ (upd H1' dx (.xd kv)) := fun dx kv hn h1 h2 => by
      have g := Gr.one (o := .xd kv) wd1.ex hn
      refine acc.ex _ _ _ _ _ _ _ ⟨c, ws.reverse⟩ (e1.trans g.e0) (wd1.grow g) (ss1.mono g.e0) ⟨rfl, .inr ⟨dx, kv, rfl, upd_same, by rw [h1, hf], ?_⟩⟩ k1
      rw [h2]
      exact (rws.mono g.e0).reverse
    refine ⟨?_, fun a han => ?_⟩
    · have : (fldN c).length ≤ 10 := by
        unfold fldN
        split <;> decide
      rw [hvl, ← List.length_reverse, ← hf]
      omega
    · rw [List.append_nil]
      refine ⟨a, vs, rfl, hvl, upd_same, ?_⟩
      match fs, vs, hvl, fin with
      | [f], [y], _, fin =>
        intro dx hdx hne
        rw [upd_ne hne] at hdx
        refine ⟨rfl, dx, [(f, y)], upd_same, by rw [upd_ne hne, upd_same], hdx, ?_⟩
        rw [del_end han hne]
        exact fin dx [(f, y)] hdx rfl rfl
      | [f, g], [y, z], _, fin =>
        intro dx hdx hne
        rw [upd_ne hne] at hdx
        refine ⟨rfl, dx, [(g, z), (f, y)], by rw [upd_ne (Ne.symm hne), upd_same], upd_same, hdx, ?_⟩
        rw [del_end2 han hne]
        exact fin dx [(g, z), (f, y)] hdx rfl rfl
      | [], [], _, fin => rcases h12 with h | h <;> cases h
      | _ :: _ :: _ :: _, _ :: _ :: _ :: _, _, fin => rcases h12 with h | h <;> simp at h
end
end Y
namespace Y
open PySem L2
open PySem.Spec PyProof.Rows
open Evl (Ex)

/-! ### try: an error that was caught is read alone from then on -/
section
variable {X : Cx} {pins : List (Addr × Obj)} {σ : L2.St} {H : Hp} {s : Shared} {a : Addr} {o : HO}
/-- a thing that stands there is tracked from now on -/
theorem Inv.track (I : Inv X pins σ H s) (na : H a = none) (n0 : X.s_0.heap.get? a = none) (nL : X.env.locals ≠ a) (nC : ∀ x c, X.env.cells.lookup x = some c → c ≠ a) (nP : ∀ p ∈ X.pn ++ pins, p.1 ≠ a) (new : ObjOk X.prog X.w (upd H a o) s.heap a o) : Inv X pins σ (upd H a o) s where
  ok := I.ok
  os := I.os
  bare := I.bare
  base := {
    keep := I.base.keep
    slot := I.base.slot
    free := fun b u q n hx => by
      rw [upd_ne (fun z => by rw [z, n0] at q; cases q)]
      exact I.base.free b u q n hx
    there := I.base.there
    tups := fun b xs q => by
      have q' := I.base.tups b xs q
      rw [upd_ne (ne_of_none q' na)]; exact q'
    frzs := fun b u v q => by
      have q' := I.base.frzs b u v q
      rw [upd_ne (ne_of_none q' na)]; exact q'
    tbls := fun b ps q => by
      obtain ⟨more, q'⟩ := I.base.tbls b ps q
      exact ⟨more, by rw [upd_ne (ne_of_none q' na)]; exact q'⟩ }
  loc := I.loc
  cell := I.cell
  free := by rw [upd_ne nL]; exact I.free
  freeC := fun x c e => by rw [upd_ne (nC x c e)]; exact I.freeC x c e
  pin := fun p hp => by
    obtain ⟨h1, h2, h3⟩ := I.pin p hp
    exact ⟨h1, by rw [upd_ne (nP p hp)]; exact h2, h3⟩
  hok := fun b u e => by
    by_cases hb : b = a
    · subst hb
      rw [upd_same] at e
      cases e
      exact new
    · rw [upd_ne hb] at e
      exact (I.hok b u e).stay (fun c v _ q => q) (fun c q => by rw [upd_ne (ne_of_none q na)]; exact q) fun c xs q => by rw [upd_ne (ne_of_none q na)]; exact q
  len := I.len
theorem exH_ok {P : Program} {w : World} {h : Heap} {cls : Value} {d : Option Addr} {oe : Obj} {vs : Array Value} (he : h.get? a = some oe) (hz : Zc cls d oe) (hd : oe.data = .fields vs) : ObjOk P w H h a (exH a cls d) :=
  ⟨⟨oe, vs, he, hz, hd⟩, ⟨oe, he⟩, fun h1 h2 ⟨u, v, q, r⟩ k => ⟨u, v, k u q, r⟩⟩
theorem exH_at (I : Inv X pins σ H s) {cls : Value} {d : Option Addr} (e : H a = some (exH a cls d)) : ∃ oe vs, s.heap.get? a = some oe ∧ Zc cls d oe ∧ oe.data = .fields vs := (show ObjOk X.prog X.w H s.heap a (.ext _) from I.hok a _ e).1
theorem Inv.suiteN (I : Inv X pins σ H s) (a : Addr) : Inv (X.suite a (X.pn ++ pins)) [] σ H s := ⟨I.ok.suite _ _, I.os, I.bare, I.base, I.loc, I.cell, I.free, I.freeC, fun p hp => I.pin p (by rw [List.append_nil] at hp; exact hp), I.hok, I.len⟩
theorem Inv.unsuiteN {pn' : List (Addr × Obj)} (I : Inv (X.suite a (X.pn ++ pins)) pn' σ H s) (ok : X.Ok) : Inv X pins σ H s := ⟨ok, I.os, I.bare, I.base, I.loc, I.cell, I.free, I.freeC, fun p hp => I.pin p (List.mem_append_left _ hp), I.hok, I.len⟩
theorem flies {B h h' : Heap} {l : List Env} {Zp : Obj → Prop} (x : HandSPX.FlyingZ B l a Zp h) (k : ∀ c u, h.get? c = some u → h'.get? c = some u) : HandSPX.FlyingZ B l a Zp h' := by
  obtain ⟨k1, k2, k3, oe, vs, T, oT, ts, e1, e2, e3, e4, e5, e6, e7, e8⟩ := x
  exact ⟨fun b o e => k b o (k1 b o e), k2, Heap.FunFrames.of_keeps (fun b o e _ => ⟨o, k b o e, rfl⟩) k3, oe, vs, T, oT, ts, k _ _ e1, e2, e3, e4, e5, e6, k _ _ e7, e8⟩
theorem takes_noneE {X : Cx} : Takes X E0s := fun _ _ ⟨_, _, _, _, _, _, _, _, _, _, _, _, _, _, _, _, w⟩ => w.elim
/-- what a clause's words tell of an error's class -/
structure ClT (X : Cx) (t : Expr) (m : Value → Option Bool) : Prop where
  run : ∀ {pn pins : List (Addr × Obj)} {σ : L2.St} {H : Hp} {s : Shared} {a : Addr} {oe : Obj} {b : Bool} {Q : Bool → Shared → Prop} {E : Value → Shared → Prop}, Inv (X.suite a pn) pins σ H s → s.heap.get? a = some oe → m oe.cls = some b →
    (∀ h' tk, (∀ c u, s.heap.get? c = some u → h'.get? c = some u) → Q b { s with heap := h', toks := tk }) →
    wpAny (model X.prog X.w) (X.A.mark (some (.ref a))) (eval t X.env) (fun c s1 => wpAny (model X.prog X.w) (X.A.mark (some (.ref a))) (excMatches (.ref a) c) Q E s1) E s
/-- the ends of a clause's suite whose name goes -/
def gone (D : Ends) (i : Nat) : Ends := { nx := fun σ H => D.nx (σ.set i none) H, rt := D.rt, bk := fun σ H => D.bk (σ.set i none) H, ct := fun σ H => D.ct (σ.set i none) H }
abbrev Cl := (Value → Option Bool) × Option Nat × TS
/-- what the clauses wish of an error -/
def wCl (Wout : WX) (D : Ends) : List Cl → WX
  | [] => Wout
  | (m, none, ts) :: r => fun cls d σ H => ∃ b, m cls = some b ∧ (b = true → ∀ a, H a = none → ts D σ (upd H a (exH a cls d))) ∧ (b = false → wCl Wout D r cls d σ H)
  | (m, some i, ts) :: r => fun cls d σ H => ∃ b, m cls = some b ∧ (b = true → ∀ a, H a = none → ts (gone D i) (σ.set i (some (.ref a))) (upd H a (exH a cls d))) ∧ (b = false → wCl Wout D r cls d σ H)
inductive HdsO (X : Cx) : List ExceptHandler → List Cl → Prop
  | nil : HdsO X [] []
  | no {t : Expr} {m : Value → Option Bool} {ts : TS} {b₀ : Stmt} {su : List Stmt} {pos' : Pos} {hds : List ExceptHandler} {l : List Cl} (hc : ClT X t m) (hsu : ∀ a pn, PSs (X.suite a pn) (b₀ :: su) ts) (r : HdsO X hds l) : HdsO X (.ExceptHandler (some t) none (b₀ :: su) pos' :: hds) ((m, none, ts) :: l)
  | as {t : Expr} {m : Value → Option Bool} {ts : TS} {b₀ : Stmt} {su : List Stmt} {pos' : Pos} {hds : List ExceptHandler} {l : List Cl} {n : Str} {i : Nat} (hc : ClT X t m) (hi : X.N[i]? = some n) (hln : X.env.kindOf n = some .local) (hsu : ∀ a pn, PSs (X.suite a pn) (b₀ :: su) ts) (r : HdsO X hds l) :
      HdsO X (.ExceptHandler (some t) (some n) (b₀ :: su) pos' :: hds) ((m, some i, ts) :: l)
end
section
variable {X : Cx} {body orelse : List Stmt} {h₀ : ExceptHandler} {hds : List ExceptHandler} {l : List Cl} {pos : Pos} {tb : WX → TS} {u : TS} {Wout : WX}
theorem ps_tryO (ho : PSs X orelse u) (hs : X.stack = X.env :: X.outer) (hf : X.env.frame = some X.env.locals) (hN : X.N.Nodup) (hex : X.ex = []) (tk : Takes X Wout)
    (hb : ∀ (W : WX) (pn : List (Addr × Obj)) (xe : Value → Shared → Prop), Takes (X.tr pn xe) W → PassesOwn (model X.prog X.w) X.A X.env xe → PSs (X.tr pn xe) body (tb W))
    (hh : HdsO X (h₀ :: hds) l) : PS X (.Try body (h₀ :: hds) orelse [] pos) (fun D σ H => tb (wCl Wout D l) { D with nx := u D } σ H) := by
  refine ⟨fun pins s σ H D I h => ?_⟩
  have ok := I.ok
  have hfr : X.A.frames = some (X.env :: X.outer) := by rw [ok.frames, hs]
  refine wpAny_Try_except ?_
  refine wpAny_mono ((hb (wCl Wout D l) (X.pn ++ pins) (fun e s₁ => wpAny (model X.prog X.w) X.A (noteFrame e X.env) (fun _ s₂ => wpAny (model X.prog X.w) X.A (setFlight e none) (fun _ s₃ =>
    wpAny (model X.prog X.w) X.A (handleBy e X.env (h₀ :: hds)) (SP X pins D) X.xe s₃) X.xe s₂) X.xe s₁) (fun u s' xx => ?_) PassesOwn.looking).run [] s σ H { D with nx := u D } (I.toTry _) h) (fun f s1 hsp => ?_) fun e s1 he => he
  rotate_left
  · cases f with
    | next =>
      obtain ⟨σ', H', J', q⟩ := hsp
      exact ho.run pins s1 σ' H' D (J'.ofTry ok) q
    | brk =>
      obtain ⟨σ', H', J', q⟩ := hsp
      exact ⟨σ', H', J'.ofTry ok, q⟩
    | cont =>
      obtain ⟨σ', H', J', q⟩ := hsp
      exact ⟨σ', H', J'.ofTry ok, q⟩
    | ret u =>
      obtain ⟨v, σ', H', J', r, q⟩ := hsp
      exact ⟨v, σ', H', J'.ofTry ok, r, q⟩
  · obtain ⟨a, B, sI, pins', σ', H', cls, d, rfl, J', nb, up, sky, na, os, ag, w⟩ := xx
    have J : Inv X pins σ' H' sI := J'.ofTry ok
    have sky' : Sky B (X.env :: X.outer) a (Zc cls d) X.env.locals s'.heap := by rw [← hs]; exact sky
    show wpAny (model X.prog X.w) X.A (noteFrame (.ref a) X.env) _ _ _
    refine Sky.land Zc.steady hfr hf sky' fun h3 fl3 up3 => ?_
    obtain ⟨oe3, vs3, he3, hz3, hd3⟩ := fl3.there
    have aF : a ∉ frs (X.env :: X.outer) := fun hm => by
      obtain ⟨_, o', e', hnf⟩ := fl3.2.2.1.mem hm
      rw [he3] at e'
      cases e'
      exact hnf _ hd3
    have nL : X.env.locals ≠ a := fun z => aF (List.mem_filterMap.mpr ⟨X.env, List.mem_cons_self, by rw [hf, z]⟩)
    have nI : sI.heap.get? a = none := by
      cases q : sI.heap.get? a with
      | none => rfl
      | some o =>
        have z := nb a o q (by rw [hs]; exact aF)
        rw [fl3.2.1] at z
        cases z
    have n0 : X.s_0.heap.get? a = none := by
      cases q : X.s_0.heap.get? a with
      | none => rfl
      | some o =>
        obtain ⟨o', z⟩ := J.base.there a o q (by rw [hex]; exact fun z => nomatch z)
        rw [nI] at z
        cases z
    have nP : ∀ p ∈ X.pn ++ pins, p.1 ≠ a := fun p hp z => by
      have z' := (J.pin p hp).1
      rw [z, nI] at z'
      cases z'
    have nC : ∀ x c, X.env.cells.lookup x = some c → c ≠ a := fun x c e z => by
      obtain ⟨v, o, z', _⟩ := J.cell x c e
      rw [z, nI] at z'
      cases z'
    have go : ∀ {hds' : List ExceptHandler} {l' : List Cl} {s3 : Shared}, HdsO X hds' l' → wCl Wout D l' cls d σ' H' → HandSPX.FlyingZ B (X.env :: X.outer) a (Zc cls d) s3.heap → sI.heap.UpToSlots s3.heap → s3.os = sI.os → AllBare s3.gens →
        wpAny (model X.prog X.w) X.A (handleBy (.ref a) X.env hds') (SP X pins D) X.xe s3 := by
      intro hds' l' s3 hk
      induction hk generalizing s3 with
      | nil =>
        intro w fl up os ag
        refine wpAny_handleBy_nil ?_
        obtain ⟨_, _, _, oe, vs, T, oT, ts', he, hz, hd, h1, _⟩ := id fl
        unfold PySem.passOn
        refine wpAny_bind (wpAny_field he hd h1 ?_)
        rw [if_neg (show ¬ ((Value.ref T == Value.none) = true) from by simp)]
        have fin : wpAny (model X.prog X.w) X.A (setFlight (.ref a) X.env.frame) (fun _ s4 => wpAny (model X.prog X.w) X.A (throw (.ref a) : Sem Flow) (SP X pins D) X.xe s4) X.xe s3 := by
          rw [hf]
          refine HandSPX.setFlight_upZ fl fun h4 held up4 => wpAny_throw (tk _ _ ?_)
          refine ⟨a, B, sI, pins, σ', H', cls, d, rfl, J, nb, up.trans up4, .inr (.inr ?_), na, os, ag, w⟩
          rw [hs]
          exact held
        first
          | exact wpAny_bind fin
          | exact wpAny_bind (wpAny_pure (wpAny_bind fin))
      | no hc hsu r ih =>
        intro w fl up os ag
        obtain ⟨b, hb1, yes, no⟩ := w
        have J3 := Inv.suiteN (L2.Inv.landed (s' := s3) J nb fl.1 up os ag) a
        obtain ⟨oe, vs, he, hz, hd⟩ := fl.there
        refine wpAny_handleBy_cons (codeAny_handlers_test (hc.run (b := b) J3 he (by rw [hz.1]; exact hb1) fun h' tk' k => ?_)) (by intro q; cases q)
        have fl' := flies fl k
        have up' := up.trans (Heap.UpToSlots.of_keeps k)
        cases b with
        | true =>
          refine codeAny_handlers_suite (HandSPX.lands_againZ (s := { s3 with heap := h', toks := tk' }) fl' fun h4 fl4 up4 => ?_)
          obtain ⟨oe4, vs4, he4, hz4, hd4⟩ := fl4.there
          have J4 := Inv.track (Inv.suiteN (L2.Inv.landed (s' := { s3 with heap := h4, toks := tk' }) J nb fl4.1 (up'.trans up4) os ag) a) na n0 nL nC (fun p hp => nP p (by rw [List.append_nil] at hp; exact hp)) (exH_ok he4 hz4 hd4)
          refine wpAny_mono ((hsu a _).run [] _ _ _ _ J4 (yes rfl a na)) (fun f s6 q6 => ?_) fun _ _ z => z.elim
          cases f with
          | next =>
            obtain ⟨σ6, H6, S6, q6⟩ := q6
            exact ⟨_, _, Inv.unsuiteN S6 ok, q6⟩
          | brk =>
            obtain ⟨σ6, H6, S6, q6⟩ := q6
            exact ⟨_, _, Inv.unsuiteN S6 ok, q6⟩
          | cont =>
            obtain ⟨σ6, H6, S6, q6⟩ := q6
            exact ⟨_, _, Inv.unsuiteN S6 ok, q6⟩
          | ret u =>
            obtain ⟨v6, σ6, H6, S6, r6, q6⟩ := q6
            exact ⟨_, _, _, Inv.unsuiteN S6 ok, r6, q6⟩
        | false => exact ih (no rfl) fl' up' os ag
      | as hc hi hln hsu r ih =>
        intro w fl up os ag
        obtain ⟨b, hb1, yes, no⟩ := w
        have J3 := Inv.suiteN (L2.Inv.landed (s' := s3) J nb fl.1 up os ag) a
        obtain ⟨oe, vs, he, hz, hd⟩ := fl.there
        refine wpAny_handleBy_cons (codeAny_handlers_test (hc.run (b := b) J3 he (by rw [hz.1]; exact hb1) fun h' tk' k => ?_)) (by intro q; cases q)
        have fl' := flies fl k
        have up' := up.trans (Heap.UpToSlots.of_keeps k)
        cases b with
        | true =>
          refine codeAny_handlers_suite_as (HandSPX.lands_againZ (s := { s3 with heap := h', toks := tk' }) fl' fun h4 fl4 up4 => ?_)
          obtain ⟨oe4, vs4, he4, hz4, hd4⟩ := fl4.there
          have J4 := Inv.track (Inv.suiteN (L2.Inv.landed (s' := { s3 with heap := h4, toks := tk' }) J nb fl4.1 (up'.trans up4) os ag) a) na n0 nL nC (fun p hp => nP p (by rw [List.append_nil] at hp; exact hp)) (exH_ok he4 hz4 hd4)
          refine store_ok (X := X.suite a (X.pn ++ pins)) (v := .ref a) J4 hN hi (.inl hln) rfl (fun s5 S5 => ?_) (.inr hln)
          refine wpAny_mono ((hsu a _).run [] s5 _ _ _ S5 (yes rfl a na)) (fun f s6 q6 => ?_) fun _ _ z => z.elim
          cases f with
          | next =>
            obtain ⟨σ6, H6, S6, q6⟩ := q6
            exact L2.gone_ok (Inv.unsuiteN S6 ok) hN hi hln fun s7 J7 => ⟨_, _, J7, q6⟩
          | brk =>
            obtain ⟨σ6, H6, S6, q6⟩ := q6
            exact L2.gone_ok (Inv.unsuiteN S6 ok) hN hi hln fun s7 J7 => ⟨_, _, J7, q6⟩
          | cont =>
            obtain ⟨σ6, H6, S6, q6⟩ := q6
            exact L2.gone_ok (Inv.unsuiteN S6 ok) hN hi hln fun s7 J7 => ⟨_, _, J7, q6⟩
          | ret u =>
            obtain ⟨v6, σ6, H6, S6, r6, q6⟩ := q6
            exact L2.gone_ok (Inv.unsuiteN S6 ok) hN hi hln fun s7 J7 => ⟨_, _, _, J7, r6, q6⟩
        | false => exact ih (no rfl) fl' up' os ag
    exact go hh w fl3 (up.trans up3) os ag
end

/-! ### try on data -/
abbrev DCl := (Nat → Option Bool) × Option Nat × DS
def gD (D : DEnds) (i : Nat) : DEnds := { nx := fun st => D.nx (put st i .un), rt := D.rt, bk := fun st => D.bk (put st i .un), ct := fun st => D.ct (put st i .un) }
def sD (D : DEnds) : DEnds := { nx := D.nx, rt := D.rt, bk := D.bk, ct := D.ct }
/-- an error, asked clause by clause -/
def hX (D : DEnds) : List DCl → KX
  | [] => D.ex
  | (p, none, d) :: r => fun x st => match p x.c with
    | some true => d (sD D) st
    | some false => hX D r x st
    | none => False
  | (p, some i, d) :: r => fun x st => match p x.c with
    | some true => sto st i (.fz (.xc x.c x.fs)) (d (gD D i))
    | some false => hX D r x st
    | none => False
def dTry (d u : DS) (l : List DCl) : DS := fun D st => d { nx := u D, rt := D.rt, bk := D.bk, ct := D.ct, ex := hX D l } st
/-- the table of a clause: classes asked, with the answer -/
def tblC (l : List (Nat × Bool)) : Nat → Option Bool := fun c => l.lookup c
inductive HdsD (X : Cx) (Z : Zx) : List ExceptHandler → List DCl → Prop
  | nil : HdsD X Z [] []
  | no {t : Expr} {m : Value → Option Bool} {p : Nat → Option Bool} {d : DS} {b₀ : Stmt} {su : List Stmt} {pos' : Pos} {hds : List ExceptHandler} {l : List DCl} (hc : ClT X t m) (hm : ∀ c b, p c = some b → m (.ref (Z.cls c)) = some b)
      (hsu : ∀ a pn, PZs (X.suite a pn) Z E0s (b₀ :: su) d) (r : HdsD X Z hds l) : HdsD X Z (.ExceptHandler (some t) none (b₀ :: su) pos' :: hds) ((p, none, d) :: l)
  | as {t : Expr} {m : Value → Option Bool} {p : Nat → Option Bool} {d : DS} {b₀ : Stmt} {su : List Stmt} {pos' : Pos} {hds : List ExceptHandler} {l : List DCl} {n : Str} {i : Nat} (hc : ClT X t m) (hm : ∀ c b, p c = some b → m (.ref (Z.cls c)) = some b)
      (hi : X.N[i]? = some n) (hln : X.env.kindOf n = some .local) (hsu : ∀ a pn, PZs (X.suite a pn) Z E0s (b₀ :: su) d) (r : HdsD X Z hds l) : HdsD X Z (.ExceptHandler (some t) (some n) (b₀ :: su) pos' :: hds) ((p, some i, d) :: l)
section
variable {K : PySem.W.Frag} {Z : Zx} {H0 H F : Hp} {pv : List V}
theorem Sts.gone : ∀ {σ st G} (i : Nat), Sts K Z H0 pv σ st G → ∃ Ga Gx Gb, G = Ga ++ Gx ++ Gb ∧ Sts K Z H0 pv (σ.set i none) (put st i .un) (Ga ++ Gb)
  | _, _, _, i, .nil => ⟨[], [], [], rfl, .nil⟩
  | _, _, _, 0, .un (G := G) h => ⟨[], [], G, rfl, .un h⟩
  | _, _, _, 0, .lo (G1 := G1) (G2 := G2) _ h => ⟨[], G1, G2, rfl, .un h⟩
  | _, _, _, 0, .mp (G1 := G1) (G2 := G2) _ _ h => ⟨[], G1, G2, rfl, .un h⟩
  | _, _, _, 0, .fr (G1 := G1) (G2 := G2) _ _ h => ⟨[], G1, G2, rfl, .un h⟩
  | _, _, _, i + 1, .un h => by
    obtain ⟨Ga, Gx, Gb, h1, h2⟩ := Sts.gone i h
    exact ⟨Ga, Gx, Gb, h1, .un h2⟩
  | _, _, _, i + 1, .lo (G1 := Gy) q h => by
    obtain ⟨Ga, Gx, Gb, h1, h2⟩ := Sts.gone i h
    exact ⟨Gy ++ Ga, Gx, Gb, by rw [h1]; simp only [List.append_assoc], Sts.cast (Sts.lo q h2) (by simp only [List.append_assoc])⟩
  | _, _, _, i + 1, .mp (G1 := Gy) p q h => by
    obtain ⟨Ga, Gx, Gb, h1, h2⟩ := Sts.gone i h
    exact ⟨Gy ++ Ga, Gx, Gb, by rw [h1]; simp only [List.append_assoc], Sts.cast (Sts.mp p q h2) (by simp only [List.append_assoc])⟩
  | _, _, _, i + 1, .fr (G1 := Gy) z q h => by
    obtain ⟨Ga, Gx, Gb, h1, h2⟩ := Sts.gone i h
    exact ⟨Gy ++ Ga, Gx, Gb, by rw [h1]; simp only [List.append_assoc], Sts.cast (Sts.fr z q h2) (by simp only [List.append_assoc])⟩
theorem accS_gone {i : Nat} {k : S → Prop} {Q : L2.St → Hp → Prop} (h : AccS K Z F pv H0 k Q) : AccS K Z F pv H0 (fun st => k (put st i .un)) (fun σ H => Q (σ.set i none) H) := fun H0' G' H' σ' st' e wd ss q => by
  obtain ⟨Ga, Gx, Gb, h1, h2⟩ := ss.gone i
  subst h1
  exact h _ _ _ _ _ e wd.less h2 q
theorem accD_gone {E : XS} {DD : DEnds} {D : Ends} (i : Nat) (h : AccD K Z E F pv H0 DD D) : AccD K Z E0s F pv H0 (gD DD i) (Y.gone D i) := ⟨accS_gone h.nx, h.rt, accS_gone h.bk, accS_gone h.ct, h.ex.nox⟩
theorem accD_suite {E : XS} {DD : DEnds} {D : Ends} (h : AccD K Z E F pv H0 DD D) : AccD K Z E0s F pv H0 (sD DD) D := ⟨h.nx, h.rt, h.bk, h.ct, h.ex.nox⟩
theorem rep_xc {a : Addr} {cls : Value} {dx : Option Addr} {x : XW} (r : RepX K Z H0 H cls dx x) (na : H0 a = none) : Rep K Z (upd H0 a (exH a cls dx)) (.ref a) (.xc x.c x.fs) := by
  obtain ⟨rfl, ⟨rfl, e⟩ | ⟨d, fs, rfl, hd, hn, hr⟩⟩ := r
  · rw [e]
    exact .xc0 upd_same
  · exact .xcd upd_same (by rw [upd_ne (ne_of_none hd na)]; exact hd) hn (hr.mono (.new na))
end
section
variable {X : Cx} {Z : Zx} {E : XS} {hds : List ExceptHandler} {l : List DCl}
theorem hds_ok (h : HdsD X Z hds l) : ∃ L, HdsO X hds L ∧ ∀ {E F pv H0 DD D}, AccD X.K Z E F pv H0 DD D → AccX X.K Z (wCl (fun cls d σ H => E cls d σ H) D L) F pv H0 (hX DD l) := by
  induction h with
  | nil => exact ⟨[], .nil, fun acc => acc.ex⟩
  | @no t m p d b₀ su pos' hds l hc hm hsu r ih =>
    obtain ⟨L, h1, h2⟩ := ih
    refine ⟨(m, none, tS X.K Z E0s d) :: L, .no hc (fun a pn => hsu a pn) h1, fun {E F pv H0 DD D} acc => ⟨(acc.ex).tabs, fun H0' G' H' σ' st' cls dx x e wd ss rx k => ?_⟩⟩
    have k' : (match p x.c with | some true => d (sD DD) st' | some false => hX DD l x st' | none => False) := k
    cases q : p x.c with
    | none => rw [q] at k'; exact k'.elim
    | some b =>
      rw [q] at k'
      refine ⟨b, by rw [rx.1]; exact hm _ _ q, fun hb a na => ?_, fun hb => ?_⟩
      · subst hb
        have g := Gr.one (o := exH a cls dx) wd.ex na
        exact ⟨_, F, G', pv, st', sD DD, wd.grow g, ss.mono g.e0, k', accD_suite (acc.up (e.trans g.e0))⟩
      · subst hb
        exact h2 acc _ _ _ _ _ _ _ _ e wd ss rx k'
  | @as t m p d b₀ su pos' hds l n i hc hm hi hln hsu r ih =>
    obtain ⟨L, h1, h2⟩ := ih
    refine ⟨(m, some i, tS X.K Z E0s d) :: L, .as hc hi hln (fun a pn => hsu a pn) h1, fun {E F pv H0 DD D} acc => ⟨(acc.ex).tabs, fun H0' G' H' σ' st' cls dx x e wd ss rx k => ?_⟩⟩
    have k' : (match p x.c with | some true => sto st' i (.fz (.xc x.c x.fs)) (d (gD DD i)) | some false => hX DD l x st' | none => False) := k
    cases q : p x.c with
    | none => rw [q] at k'; exact k'.elim
    | some b =>
      rw [q] at k'
      refine ⟨b, by rw [rx.1]; exact hm _ _ q, fun hb a na => ?_, fun hb => ?_⟩
      · subst hb
        have g := Gr.one (o := exH a cls dx) wd.ex na
        have na0 : H0' a = none := by
          cases z : H0' a with
          | none => rfl
          | some u => rw [wd.ex _ _ z] at na; cases na
        obtain ⟨G2, wd2, ss2, k2⟩ := sto_ok (wd.grow g) (ss.mono g.e0) (rep_xc rx na0) k'
        exact ⟨_, F, G2, pv, _, gD DD i, wd2, ss2, k2, accD_gone i (acc.up (e.trans g.e0))⟩
      · subst hb
        exact h2 acc _ _ _ _ _ _ _ _ e wd ss rx k'
theorem z_try {body orelse : List Stmt} {h₀ : ExceptHandler} {pos : Pos} {db u : DS} (hs : X.stack = X.env :: X.outer) (hf : X.env.frame = some X.env.locals) (hN : X.N.Nodup) (hex : X.ex = []) (tk : Takes X fun cls d σ H => E cls d σ H)
    (hb : ∀ (W : XS) (pn : List (Addr × Obj)) (xe : Value → Shared → Prop), Takes (X.tr pn xe) (fun cls d σ H => W cls d σ H) → PassesOwn (model X.prog X.w) X.A X.env xe → PZs (X.tr pn xe) Z W body db)
    (hh : HdsD X Z (h₀ :: hds) l) (ho : PZs X Z E orelse u) : PZ X Z E (.Try body (h₀ :: hds) orelse [] pos) (dTry db u l) := by
  obtain ⟨L, h1, h2⟩ := hds_ok hh
  refine ps_weak (ps_tryO (tb := fun W => tS X.K Z W db) ho hs hf hN hex tk (fun W pn xe t p => hb W pn xe t p) h1) fun D σ H q => ?_
  obtain ⟨H0, F, G, pv, st, DD, wd, ss, hd, acc⟩ := q
  exact ⟨H0, F, G, pv, st, _, wd, ss, hd, ⟨fun H0' G' H' σ' st' e wd' ss' k => ⟨H0', F, G', pv, st', DD, wd', ss', k, acc.up e⟩, acc.rt, acc.bk, acc.ct, h2 acc⟩⟩
end
end Y
namespace Y
open PySem L2
open PySem.Spec PyProof.Rows
open Evl (Ex)

/-! ### tables of classes -/
theorem tb_nil {β : Type} {P : Nat → β → Prop} : ∀ c b, ([] : List (Nat × β)).lookup c = some b → P c b := fun _ _ h => nomatch h
theorem tb_cons {β : Type} {P : Nat → β → Prop} {l : List (Nat × β)} {c : Nat} {b : β} (h : P c b) (r : ∀ c b, l.lookup c = some b → P c b) : ∀ c' b', ((c, b) :: l).lookup c' = some b' → P c' b' := fun c' b' e => by
  rw [List.lookup_cons] at e
  by_cases q : c' = c
  · subst q
    rw [beq_self_eq_true] at e
    cases e
    exact h
  · rw [show (c' == c) = false from beq_eq_false_iff_ne.mpr q] at e
    exact r c' b' e

/-! ### a caught error, asked -/
/-- what a class of errors must say -/
structure XcC (K : PySem.W.Frag) (D : Addr) : Prop where
  ga : PySem.W.findIn K (.ref D) "__getattribute__" = some (some (.builtin "BaseException.__getattribute__"))
  gg : PySem.W.findIn K (.ref D) "__getattr__" = some none
  sb : PySem.W.subIn K (.ref D) (.type "BaseException") = some true
  hd : PySem.W.hasDictIn K D = true
  ca : PySem.W.findIn K (.ref D) "__class__" = some (some (.builtin "object.__class__"))
  cn : PySem.W.specialIn K (.builtin "object.__class__") "__get__" = some (some (.builtin "getset_descriptor.__get__"))
  ct : PySem.W.takesIn K (.builtin "object.__class__") = some true
  cm : PySem.W.mroIn K D (.type "object") = some true
def xcB (K : PySem.W.Frag) (D : Addr) : Bool := decide (PySem.W.findIn K (.ref D) "__getattribute__" = some (some (.builtin "BaseException.__getattribute__"))) && (decide (PySem.W.findIn K (.ref D) "__getattr__" = some none) && (decide (PySem.W.subIn K (.ref D) (.type "BaseException") = some true) && (PySem.W.hasDictIn K D &&
  (decide (PySem.W.findIn K (.ref D) "__class__" = some (some (.builtin "object.__class__"))) && (decide (PySem.W.specialIn K (.builtin "object.__class__") "__get__" = some (some (.builtin "getset_descriptor.__get__"))) && (decide (PySem.W.takesIn K (.builtin "object.__class__") = some true) && decide (PySem.W.mroIn K D (.type "object") = some true)))))))
theorem xcB_ok {K : PySem.W.Frag} {D : Addr} (h : xcB K D = true) : XcC K D := by
  obtain ⟨h1, h⟩ := Bool.and_eq_true_iff.mp h
  obtain ⟨h2, h⟩ := Bool.and_eq_true_iff.mp h
  obtain ⟨h3, h⟩ := Bool.and_eq_true_iff.mp h
  obtain ⟨h4, h⟩ := Bool.and_eq_true_iff.mp h
  obtain ⟨h5, h⟩ := Bool.and_eq_true_iff.mp h
  obtain ⟨h6, h⟩ := Bool.and_eq_true_iff.mp h
  obtain ⟨h7, h8⟩ := Bool.and_eq_true_iff.mp h
  exact ⟨of_decide_eq_true h1, of_decide_eq_true h2, of_decide_eq_true h3, h4, of_decide_eq_true h5, of_decide_eq_true h6, of_decide_eq_true h7, of_decide_eq_true h8⟩
section
variable {X : Cx} {pins : List (Addr × Obj)} {σ : L2.St} {H : Hp} {s : Shared} {a D : Addr} {d : Option Addr}
/-- where the error stands, with its dict -/
theorem xc_inst (I : Inv X pins σ H s) (e : H a = some (exH a (.ref D) d)) : match d with
    | none => ∃ oe, PySem.W.InstAt s.heap a oe D none
    | some dd => ∀ fs, H dd = some (.xd fs) → ∃ (oe od : Obj) (mA : Str → Option Value), PySem.W.InstAt s.heap a oe D (some od) ∧ (∀ f, PySem.W.lookIn f od = some (mA f)) ∧ ∀ f, RelO (fs.lookup f) (mA f) := by
  obtain ⟨oe, vs, he, hz, hv⟩ := exH_at I e
  have nc : PySem.W.notCls oe = true := by
    unfold PySem.W.notCls
    rw [hv]
  cases d with
  | none => exact ⟨oe, he, hz.1, nc, by rw [hz.2]; trivial⟩
  | some dd =>
    intro fs hx
    obtain ⟨mA, hns, hr⟩ := (show ObjOk X.prog X.w H s.heap dd (.xd fs) from I.hok dd _ hx)
    obtain ⟨od, ho, hl⟩ := lookIn_ns hns
    exact ⟨oe, od, mA, ⟨he, hz.1, nc, by rw [hz.2]; exact ho⟩, hl, hr⟩
theorem xc_kit (C : XcC X.K D) {oe : Obj} {od : Option Obj} : PySem.W.KitX X.K (.ref a) (.ref D) (fun h => PySem.W.InstAt h a oe D od) := by
  obtain ⟨cd, hc, _⟩ := PySem.W.any_some C.hd
  exact PySem.W.kitx_exc (by rw [hc]; rfl) C.ga C.gg C.sb C.ca C.cn C.ct C.cm
/-- an error as an argument of isinstance -/
def IsX (K : PySem.W.Frag) (H : Hp) (v : V) (D : Addr) : Prop := ∃ (a : Addr) (d : Option Addr), v = .ref a ∧ H a = some (exH a (.ref D) d) ∧ ∀ dd, d = some dd → ∃ fs, H dd = some (.xd fs)
theorem isX_kit {v : V} {u : Value} (C : XcC X.K D) (I : Inv X pins σ H s) (x : IsX X.K H v D) (r : RelV v u) : ∃ P : Heap → Prop, PySem.W.KitX X.K u (.ref D) P ∧ P s.heap ∧ u ≠ .builtin "__main__.__loader__#opaque" := by
  obtain ⟨a, d, rfl, e, hd⟩ := x
  obtain rfl : u = Value.ref a := r
  have q := xc_inst I e
  cases d with
  | none =>
    obtain ⟨oe, J⟩ := q
    exact ⟨_, xc_kit C, J, fun z => nomatch z⟩
  | some dd =>
    obtain ⟨fs, hx⟩ := hd dd rfl
    obtain ⟨oe, od, mA, J, _⟩ := q fs hx
    exact ⟨_, xc_kit C, J, fun z => nomatch z⟩
def rIsX (K : PySem.W.Frag) : List V → Hp → VK → Prop := fun xs H Q => ∃ (x c : V) (D : Addr) (u : Value) (b : Bool), xs = [x, c] ∧ ClsV c u ∧ XcC K D ∧ IsX K H x D ∧ PySem.W.kitOne K (.ref D) u = some b ∧ Q (.bl b) H
theorem call_isX : CallR X (.builtin "isinstance") (rIsX X.K) := by
  intro pins s σ H xs us Q I r h
  obtain ⟨x, c, D, u, b, rfl, k, C, ty, e, q⟩ := h
  obtain ⟨u1, u2, rfl, r1, r2⟩ := vals2 r
  have e2 := k.eq r2
  subst e2
  obtain ⟨P, Z, p, hx⟩ := isX_kit C I ty r1
  exact PySem.W.kia_one Z I.kIn p e hx fun tk => ⟨.bl b, H, I.tok tk, rfl, q⟩
/-- e.f -/
def tXfH (K : PySem.W.Frag) (f : Str) (te : TE) : TE := fun σ H Q => te σ H fun x H1 => ∃ (a D dd : Addr) (fs : List (Str × V)) (v : V), x = .ref a ∧ H1 a = some (exH a (.ref D) (some dd)) ∧ H1 dd = some (.xd fs) ∧ XcC K D ∧ PySem.W.findIn K (.ref D) f = some none ∧ fs.lookup f = some v ∧ Q v H1
theorem pe_xfH {e : Expr} {te : TE} {pos : Pos} {f : Str} (he : PE X e te) (hb : attributeBase e f X.env (eval e X.env) = eval e X.env := by rfl) : PE X (.Attribute e f pos) (tXfH X.K f te) := by
  refine ⟨fun pins s σ H Q I h => ?_⟩
  refine attr_of hb (thn (he.run pins s σ H _ I h) fun u s1 ⟨x, H1, I1, rx, a, D, dd, fs, v, ex, ea, ed, C, hno, l, q⟩ => ?_)
  subst ex
  obtain rfl : u = Value.ref a := rx
  obtain ⟨oe, od, mA, J, hl, hr⟩ := xc_inst I1 ea fs ed
  obtain ⟨u, hu, ru⟩ := RelO.some_of (v := v) (o := mA f) (by rw [← l]; exact hr f)
  exact HandSPX.exc_get I1.kIn J C.ga C.gg C.sb (PySem.W.findObj_own C.hd hno rfl (by rw [hl, hu])) (handed_of ru) ⟨v, H1, I1.tok _, ru, q⟩
end

/-! ### on data -/
/-- isinstance of a caught error: p the table -/
def dIsX (p : List (Nat × Bool)) (d : DE) : DE := fun st k x => d st (fun r st1 => match r with
  | .w (.xc c _) => match p.lookup c with
    | some b => k (.w (.bl b)) st1
    | none => False
  | _ => False) x
/-- a caught error's field, by the place at which its class keeps it -/
def dXf (p : List (Nat × Nat)) (d : DE) : DE := fun st k x => d st (fun r st1 => match r with
  | .w (.xc c fs) => match p.lookup c with
    | some j => ∃ w, fs[j]? = some w ∧ k (.w w) st1
    | none => False
  | _ => False) x
section
variable {K : PySem.W.Frag} {Z : Zx} {H H0 : Hp}
theorem xc_is {v : V} {c : Nat} {fs : List W} (e : Ex H0 H) (r : Rep K Z H0 v (.xc c fs)) : IsX K H v (Z.cls c) := by
  cases r with
  | xc0 h => exact ⟨_, none, rfl, e _ _ h, fun _ z => nomatch z⟩
  | xcd h1 h2 h3 h4 => exact ⟨_, some _, rfl, e _ _ h1, fun dd z => by cases z; exact ⟨_, e _ _ h2⟩⟩
end
section
variable {X : Cx} {Z : Zx} {E : XS} {e ce : Expr} {dd : DE} {pos p p' : Pos} {C : Ty0} {f : Str}
theorem pd_isX {tb : List (Nat × Bool)} (hx : ∀ c b, tb.lookup c = some b → XcC X.K (Z.cls c) ∧ PySem.W.kitOne X.K (.ref (Z.cls c)) (C.v Z) = some b) (hg : Gl X "isinstance") (hm : X.mg "isinstance" = none) (he : PD X Z E e dd) (hc : PE X ce (tC (C.vV Z)))
    (hs1 : starEach [e, ce] X.env = (false, eval e X.env) :: starEach [ce] X.env := by rfl) (hs2 : starEach [ce] X.env = (false, eval ce X.env) :: starEach [] X.env := by rfl)
    (hpl : (backTo pos (starEach [ce] X.env)).any (·.1) = false := by rfl) : PD X Z E (.Call (.Name "isinstance" p) [e, ce] [] pos) (dIsX tb dd) := by
  refine pe_weak (pe_callB call_isX hg hm PyProof.Rows.boot_isinstance (pa_cons he (pa_cons hc pa_nil hs2) hs1) (by decide) (by decide) hs1 hpl) fun σ H Q q => ?_
  obtain ⟨H0, F, G, pv, st, k, kx, wd, ss, hd, hk, hxx⟩ := q
  refine tE_seq wd ss hxx hd fun H1 G1 H1' st1 v r e1 wd1 ss1 rr k1 => ?_
  show rIsX X.K [v, C.vV Z] H1' Q
  cases rr with
  | pk _ => exact k1.elim
  | @w w0 rv =>
    cases w0 with
    | xc c fs =>
      have k1 : (match tb.lookup c with | some b => k (.w (.bl b)) st1 | none => False) := k1
      cases q : tb.lookup c with
      | none => rw [q] at k1; exact k1.elim
      | some b =>
        rw [q] at k1
        obtain ⟨h1, h2⟩ := hx c b q
        exact ⟨v, C.vV Z, _, C.v Z, b, rfl, ClsV.of C, h1, xc_is wd1.ex rv, h2, hk _ _ _ _ _ _ e1 wd1 ss1 (.w .bl) k1⟩
    | _ => exact k1.elim
theorem pd_xf {tb : List (Nat × Nat)} (hx : ∀ c j, tb.lookup c = some j → XcC X.K (Z.cls c) ∧ PySem.W.findIn X.K (.ref (Z.cls c)) f = some none ∧ (fldN c)[j]? = some f) (he : PD X Z E e dd) (hb : attributeBase e f X.env (eval e X.env) = eval e X.env := by rfl) : PD X Z E (.Attribute e f pos) (dXf tb dd) := by
  refine pe_weak (pe_xfH he hb) fun σ H Q q => ?_
  obtain ⟨H0, F, G, pv, st, k, kx, wd, ss, hd, hk, hxx⟩ := q
  refine tE_seq wd ss hxx hd fun H1 G1 H1' st1 v r e1 wd1 ss1 rr k1 => ?_
  cases rr with
  | pk _ => exact k1.elim
  | @w w0 rv =>
    cases w0 with
    | xc c fs =>
      have k1 : (match tb.lookup c with | some j => ∃ w, fs[j]? = some w ∧ k (.w w) st1 | none => False) := k1
      cases q : tb.lookup c with
      | none => rw [q] at k1; exact k1.elim
      | some j =>
        rw [q] at k1
        obtain ⟨w, hw, k1⟩ := k1
        obtain ⟨h1, h2, h3⟩ := hx c j q
        cases rv with
        | xc0 h => simp at hw
        | @xcd a _ d fs' _ g1 g2 g3 g4 =>
          obtain ⟨y, hy, ry⟩ := g4.get hw
          exact ⟨a, _, d, fs', y, rfl, wd1.ex _ _ g1, wd1.ex _ _ g2, h1, h2, lookup_at (by rw [g3]; exact fld_nd c) (by rw [g3]; exact h3) hy, hk _ _ _ _ _ _ e1 wd1 ss1 (.w ry) k1⟩
    | _ => exact k1.elim
end
end Y
namespace Y
open PySem L2
open PySem.Spec PyProof.Rows
open Evl (Ex)

/-! ### except (A, B, ..): -/
section
variable {M : Model} {A : Around} {E : Value → Shared → Prop} {s : Shared} {K : PySem.W.Frag}
theorem loop_all {f : Value → PUnit → Sem (ForInStep PUnit)} : ∀ {cs : List Value} {Q : PUnit → Shared → Prop}, (∀ c ∈ cs, ∀ Q : ForInStep PUnit → Shared → Prop, Q (.yield ⟨⟩) s → wpAny M A (f c ⟨⟩) Q E s) → Q ⟨⟩ s → wpAny M A (forIn cs PUnit.unit f) Q E s
  | [], Q, _, q => by
    rw [List.forIn_nil]
    exact wpAny_pure q
  | c :: cs, Q, h, q => by
    rw [List.forIn_cons]
    refine wpAny_bind (h c List.mem_cons_self _ ?_)
    exact loop_all (fun d hd => h d (List.mem_cons_of_mem _ hd)) q
theorem loop_any {α : Type} {f : Value → Option α × PUnit → Sem (ForInStep (Option α × PUnit))} {r : α} {cls : Value} (hc : ∀ c b, PySem.W.exmOne K cls c = some b → ∀ Q : ForInStep (Option α × PUnit) → Shared → Prop, Q (if b = true then .done (some r, ⟨⟩) else .yield (none, ⟨⟩)) s → wpAny M A (f c (none, ⟨⟩)) Q E s) :
    ∀ {cs : List Value} {b : Bool} {Q : Option α × PUnit → Shared → Prop}, PySem.W.exmAny K cls cs = some b → Q (if b = true then (some r, ⟨⟩) else (none, ⟨⟩)) s → wpAny M A (forIn cs (none, PUnit.unit) f) Q E s
  | [], b, Q, h, q => by
    have e : some false = some b := h
    cases e
    rw [List.forIn_nil]
    exact wpAny_pure q
  | c :: cs, b, Q, h, q => by
    obtain ⟨b1, d1, h1, h2, rfl⟩ := PySem.W.exmAny_cons h
    rw [List.forIn_cons]
    refine wpAny_bind (hc c b1 h1 _ ?_)
    cases b1 with
    | true => exact wpAny_pure q
    | false => exact loop_any hc h2 (by rw [Bool.false_or] at q; exact q)
theorem exmAny_mem {cls : Value} : ∀ {cs : List Value} {b : Bool}, PySem.W.exmAny K cls cs = some b → ∀ c ∈ cs, ∃ b, PySem.W.exmOne K cls c = some b
  | [], _, _, c, hc => nomatch hc
  | d :: cs, b, h, c, hc => by
    obtain ⟨b1, d1, h1, h2, _⟩ := PySem.W.exmAny_cons h
    rcases List.mem_cons.mp hc with rfl | hc
    · exact ⟨_, h1⟩
    · exact exmAny_mem h2 c hc
theorem exm_many {cs : List Value} {cls : Value} {tp e : Addr} {b : Bool} {h : Heap} (X : K.In h) (LT : PySem.W.Looks M h (typeOf (.ref e)) cls) (hp : h.get? tp = some { cls := .type "tuple", data := .seq cs.toArray }) (hx : PySem.W.exmAny K cls cs = some b) :
    PySem.W.Looks M h (excMatches (.ref e) (.ref tp)) b := by
  intro A Q E s k q
  have hp' := k _ _ hp
  have LT0 : PySem.W.Looks M h (isInstance (.ref tp) (.type "tuple")) true := ((PySem.W.Looks.ld hp).andThen .now).andThen (PySem.W.Looks.of_pure isSubtype_tuple_tuple)
  unfold excMatches
  refine wpAny_bind ((LT0.keeps k).here ?_)
  dsimp only
  rw [if_pos rfl]
  refine wpAny_bind (wpAny_seqItems hp' rfl ?_)
  dsimp only [Option.getD_some, Option.getD]
  refine wpAny_bind (wpAny_pure (wpAny_bind (loop_all (fun c hc Q hq => ?_) ?_)))
  · obtain ⟨b1, h1⟩ := exmAny_mem hx c hc
    obtain ⟨e1, _⟩ := PySem.W.exm_cls (M := M) X h1
    refine wpAny_bind ((e1.keeps k).here ?_)
    exact wpAny_pure hq
  · refine wpAny_bind ((LT.keeps k).here ?_)
    refine wpAny_bind (loop_any (r := true) (fun c b1 h1 Q hq => ?_) hx ?_)
    · obtain ⟨_, S1⟩ := PySem.W.exm_cls (M := M) X h1
      refine wpAny_bind ((S1.keeps k).here ?_)
      cases b1 with
      | true => exact wpAny_pure hq
      | false => exact wpAny_pure hq
    · cases b with
      | true => exact wpAny_pure q
      | false => exact wpAny_pure q
end

section
variable {X : Cx}
/-- a name in a clause's tuple -/
structure NmT (X : Cx) (t : Expr) (c : Value) : Prop where
  run : ∀ {pn pins : List (Addr × Obj)} {σ : L2.St} {H : Hp} {s : Shared} {a : Addr} {Q : Value → Shared → Prop} {E : Value → Shared → Prop}, Inv (X.suite a pn) pins σ H s → Q c s → wpAny (model X.prog X.w) (X.A.mark (some (.ref a))) (eval t X.env) Q E s
theorem nm_t {x : Str} {c : Value} {p : Pos} (hc : Names X x c) : NmT X (.Name x p) c := by
  refine ⟨fun {pn pins σ H s a Q E} I q => ?_⟩
  obtain ⟨hg, hdbg, hm | ⟨hm, hv, hnn⟩⟩ := hc
  · exact ld_glob I hg hm q hdbg
  · exact ld_blt I hg hm hv q hnn hdbg
inductive NmTs (X : Cx) (pos : Pos) : List Expr → List Value → Prop
  | nil (h : starEach [] X.env = [] := by rfl) : NmTs X pos [] []
  | cons {e : Expr} {es : List Expr} {c : Value} {cs : List Value} (h : NmT X e c) (r : NmTs X pos es cs) (hs : starEach (e :: es) X.env = (false, eval e X.env) :: starEach es X.env := by rfl) : NmTs X pos (e :: es) (c :: cs)
theorem nmTs_run {pos : Pos} {pn pins : List (Addr × Obj)} {σ : L2.St} {H : Hp} {s : Shared} {a : Addr} {E : Value → Shared → Prop} (I : Inv (X.suite a pn) pins σ H s) : ∀ {es : List Expr} {cs : List Value} {Q : List Value → Shared → Prop}, NmTs X pos es cs → Q cs s → wpAny (model X.prog X.w) (X.A.mark (some (.ref a))) (spliced (backTo pos (starEach es X.env))) Q E s
  | _, _, Q, .nil h, q => by
    rw [h]
    exact Calls.spliced_nil q
  | _, _, Q, .cons h r hs, q => by
    rw [hs]
    refine Calls.spliced_cons (h.run I ?_)
    exact wpAny_mono (nmTs_run I r (Q := fun vs s1 => Q (_ :: vs) s1) q) (fun _ _ z => z) fun _ _ z => z
theorem cl_tup {es : List Expr} {cs : List Value} {x1 : Nat} {p : Pos} (h : NmTs X p es cs) (hl : cs.length ≤ 1000) : ClT X (.Tuple es x1 p) (fun v => PySem.W.exmAny X.K v cs) := by
  refine ⟨fun {pn pins σ H s a oe b Q E} I ha hb hq => ?_⟩
  refine wpAny_Tuple_spliced (nmTs_run I h ⟨Nat.le_trans hl (by rw [sizeLine_eq]; decide), ?_⟩)
  have k : ∀ c u, s.heap.get? c = some u → (s.heap.push { cls := .type "tuple", data := .seq cs.toArray }).get? c = some u := fun c u e => Heap.get?_push_of_some _ e
  have LT : PySem.W.Looks (model X.prog X.w) (s.heap.push { cls := .type "tuple", data := .seq cs.toArray }) (typeOf (.ref a)) oe.cls := fun A Q E s' k' q => wpAny_typeOf_ref (k' _ _ (k _ _ ha)) q
  exact (exm_many (M := model X.prog X.w) (PySem.W.Frag.In.keeps I.kIn k) LT (Heap.get?_push_size _ rfl) hb).here (hq _ s.toks k)
end
end Y
namespace Y
open PySem L2
open PySem.Spec PyProof.Rows
open Evl (Ex)

/-! ### errors' __init__, raise of a class without one -/
section
variable {P : Program} {w : World} {K : PySem.W.Frag} {mg : Str → Option Value} {base : Heap} {CX : CXT} {x qual : Str} {params : Arguments} {body : List Stmt} {scope : Scope} {dvs : List V} {kws : List (Str × V)} {f : Addr} {fd : FuncData} {C : Addr} {B newId initId : String} {bmB : List Value} {m g1 g2 p0 p1 p2 : Str} {k : Nat}
/-- B.__init__(self, 'm') -/
abbrev tBm (K : PySem.W.Frag) (bmB : List Value) (newId : String) (m : Str) : TE := tBi K bmB newId (tCons (tVar 0) (tCons (tC (.str m)) tNil))
theorem okE1 (F : FunD K x qual params body scope dvs kws f fd) (S : FnScope [p0, p1] [p0, p1] scope) (oex : OexK K C bmB newId) (hno : PySem.W.findIn K (.ref C) g1 = some none)
    (hb : ∀ (cdv : Value) (A : Around) (outer : List Env) (s : Shared) (H : Hp) (E : XK), PSs (cxOf CX P w K mg base [p0, p1] qual scope f cdv A outer s H E) body (tSeq (tDrop (tBm K bmB newId m)) (tEs K bmB newId g1 (tVar 0) (tVar 1)))) :
    FnOk P w K mg base CX (k + 1) f fd [p0, p1] (spE C [g1]) := by
  refine F.ok S (fun vs H Q E h => spE_len (fs := [g1]) h) fun cdv A outer s H vs Q E hr h => ⟨_, hb cdv A outer s H E, ?_⟩
  obtain ⟨a, ys, rfl, hl, ha, hq⟩ := h
  match ys, hl, hq with
  | [y], _, hq => exact ⟨.ref a, rfl, a, C, [.str m], rfl, by simp, oex, ha, y, rfl, .ref a, rfl, a, C, rfl, oex, hno, Or.inl ⟨ha, fun dx n ne => hq dx n ne⟩⟩
end
section
variable {X : Cx} {Z : Zx} {E : XS} {s : Stmt} {p p2 pos pos' : Pos} {x m : Str} {C : Addr} {c : Nat} {B newId initId : String} {bmB : List Value}
end
end Y
namespace Y
open PySem L2
open PySem.Spec PyProof.Rows
open He (ga)

/-! ### facts of the classes of errors -/
abbrev bm_ValueError : List Value := [.type "ValueError", .type "Exception", .type "BaseException", .type "object"]
abbrev bm_KeyError : List Value := YKX.bmK
def oexB (x : Str) (bmB : List Value) (newId : String) (K : PySem.W.Frag) : Bool := PySem.W.excInitIn K (ga K x) bmB newId && (PySem.W.excOver K (ga K x) bmB && (PySem.W.hasDictIn K (ga K x) && (decide (PySem.W.findIn K (.ref (ga K x)) "__setattr__" = some (some (.builtin "object.__setattr__"))) &&
  (decide (PySem.W.subIn K (.ref (ga K x)) (.type "BaseException") = some true) && (decide (PySem.W.typeIn K (.ref (ga K x)) = some (.type "type")) && PySem.W.keepIn K (.ref (ga K x)))))))
theorem oexB_ok {x : Str} {bmB : List Value} {newId : String} {K : PySem.W.Frag} (h : oexB x bmB newId K = true) : OexK K (ga K x) bmB newId := by
  obtain ⟨h1, h⟩ := Bool.and_eq_true_iff.mp h
  obtain ⟨h2, h⟩ := Bool.and_eq_true_iff.mp h
  obtain ⟨h3, h⟩ := Bool.and_eq_true_iff.mp h
  obtain ⟨h4, h⟩ := Bool.and_eq_true_iff.mp h
  obtain ⟨h5, h⟩ := Bool.and_eq_true_iff.mp h
  obtain ⟨h6, h7⟩ := Bool.and_eq_true_iff.mp h
  exact ⟨h1, h2, h3, of_decide_eq_true h4, of_decide_eq_true h5, of_decide_eq_true h6, h7⟩
/-- a class without __init__ -/
structure Oex0 (K : PySem.W.Frag) (C : Addr) (bmB : List Value) (newId : String) : Prop where
  q : PySem.W.excIn K C bmB newId = true
  k : PySem.W.keepIn K (.ref C) = true
  s : PySem.W.subIn K (.ref C) (.type "BaseException") = some true
  t : PySem.W.typeIn K (.ref C) = some (.type "type")
theorem bi_ValueError {K : PySem.W.Frag} : PySem.W.findCls K (.type "ValueError") (.type "type") "__init__" = some (.val (.builtin "ValueError.__init__")) := by kernel_rfl
theorem bi_KeyError {K : PySem.W.Frag} : PySem.W.findCls K (.type "KeyError") (.type "type") "__init__" = some (.val (.builtin "KeyError.__init__")) := by kernel_rfl
end Y
namespace Y
open PySem L2
open PySem.Spec PyProof.Rows
open Evl (Ex)

/-! ### t[::-1] of a tuple -/
section
variable {prog : Program} {w : World} {A : Around} {E : Value → Shared → Prop} {s : Shared}
end
section
variable {X : Cx} {e : Expr} {te : TE}
end
section
variable {X : Cx} {Z : Zx} {E : XS} {e : Expr} {da : DE} {k : Nat} {p1 p2 p3 pos : Pos}
end
/-! ### range(i, j, c), c 1 or -1 -/
section
variable {X : Cx} {Z : Zx} {E : XS} {tg a b c : Expr} {ds : DA} {p pos : Pos}
end

/-! ### a method of a fresh list -/
section
variable {X : Cx} {Z : Zx} {E : XS} {o e : Expr} {dw : DW} {ds : DA} {apos cpos : Pos}
end
end Y
namespace Y
open PySem L2
open PySem.Spec PyProof.Rows
open Evl (Ex)

/-! ### a or b, a and b of whatever -/
def dOrX (a b : DE) : DE := fun st k x => a st (fun r st1 => match (r.val st1).bind tru with
  | some c => (c = true → k r st1) ∧ (c = false → b st1 k x)
  | none => False) x
section
variable {X : Cx} {Z : Zx} {E : XS} {a b : Expr} {da db : DE} {pos : Pos}
theorem pd_orX {rest : List Expr} (ha : PD X Z E a da) (hb : PD X Z E (.BoolOp .Or (b :: rest) pos) db) : PD X Z E (.BoolOp .Or (a :: b :: rest) pos) (dOrX da db) := by
  refine pe_weak (pe_orT ha hb) fun σ H Q q => ?_
  obtain ⟨H0, F, G, pv, st, k, kx, wd, ss, hd, hk, hx⟩ := q
  refine tE_seq wd ss hx hd fun H1 G1 H1' st1 v r e1 wd1 ss1 rr k1 => ?_
  cases q1 : (r.val st1).bind tru with
  | none => rw [q1] at k1; exact k1.elim
  | some c =>
    rw [q1] at k1
    obtain ⟨w, h1, h2⟩ := Option.bind_eq_some_iff.mp q1
    refine ⟨c, tru_val wd1.ex (rr.peek ss1 wd1 h1) h2, ?_⟩
    cases c with
    | true => exact iteT (hk _ _ _ _ _ _ e1 wd1 ss1 rr (k1.1 rfl))
    | false => exact iteF (tE_seq wd1 ss1 (hx.up e1) (k1.2 rfl) (hk.up e1))
end

/-! ### a loop over whatever: also over a caller's own list, which stays -/
def forG (ok : S → Prop) (fg : List Nat) (g : DG) (body : DS) (D : DEnds) : List W → S → Prop
  | [], st => ok st ∧ D.nx (wipeS st fg)
  | w :: ws, st => ok st ∧ g w (wipeS st fg) fun st1 => body { D with nx := forG ok fg g body D ws, ct := forG ok fg g body D ws, bk := fun st => D.nx (wipeS st fg) } st1
def dForV (fg : List Nat) (d : DE) (g : DG) (body : DS) : DS := fun D st => d st (fun r st1 => match r with
  | .w (.lst ws) => forW fg g body D ws st1
  | .w (.tup ws) => forW fg g body D ws st1
  | .w (.str z) => forW fg g body D (z.cps.toList.map fun c => .str ⟨#[c]⟩) st1
  | .pk i => (match at' st1 i with
    | .mp k (.lst ws) => forG (fun st => at' st i = .mp k (.lst ws)) fg g body D ws st1
    | _ => False)
  | _ => False) D.ex
section
variable {X : Cx} {Z : Zx} {E : XS} {F : Hp} {pv : List V} {H0 H1 : Hp} {fg : List Nat} {g : DG} {d : DS} {DD : DEnds} {D : Ends}
theorem loopG {J : It} {ws : List W} {ok : S → Prop} {G1 : Fp} {H1' : Hp} {st1 : S} {σ : L2.St} (hJ : ∀ (i : Nat) (H Hc : Hp) (G : Fp) (st2 : S) (σ2 : L2.St), Ex H1 Hc → Wd Hc F G H → Sts X.K Z Hc pv σ2 st2 G → ok st2 →
      (ws.length ≤ i → J.stop i H) ∧ ∀ w, ws[i]? = some w → J.go i H ∧ ∀ x H', J.yld i H x H' → ∃ Hc', Gr Hc H Hc' H' ∧ Rep X.K Z Hc' x w)
    (wd1 : Wd H1 F G1 H1') (ss1 : Sts X.K Z H1 pv σ st1 G1) (e1 : Ex H0 H1) (ha : AccD X.K Z E F pv H0 DD D) (k1 : forG ok fg g d DD ws st1) :
    ∃ W : Nat → Nat → L2.St → Hp → Prop, (∃ m, W 0 m σ H1') ∧ ∀ i m σ H, W i m σ H → (J.stop i H ∧ D.nx σ H) ∨ (J.go i H ∧ ∃ N : L2.St → Hp → Prop, (∀ σ' H', N σ' H' → ∃ m', m' < m ∧ W (i + 1) m' σ' H') ∧ ∀ x H', J.yld i H x H' → tG X.K Z g x σ H' fun σ2 H2 => tS X.K Z E d { D with nx := N, ct := N, bk := D.nx } σ2 H2) := by
  refine ⟨fun i m σ H => m = ws.length - i ∧ ∃ H2 G2 st2, Ex H1 H2 ∧ Wd H2 F G2 H ∧ Sts X.K Z H2 pv σ st2 G2 ∧ forG ok fg g d DD (ws.drop i) st2, ⟨_, rfl, H1, G1, st1, Ex.refl _, wd1, ss1, k1⟩, ?_⟩
  rintro i m σ2 H2' ⟨rfl, H2, G2, st2, e2, wd2, ss2, k2⟩
  have hok : ok st2 := by
    cases q : ws.drop i with
    | nil => rw [q] at k2; exact k2.1
    | cons w r => rw [q] at k2; exact k2.1
  obtain ⟨hstop, hgo⟩ := hJ i H2' H2 G2 st2 σ2 e2 wd2 ss2 hok
  obtain ⟨G2', wd2', ss2'⟩ := ss2.dropAll wd2 fg
  by_cases hl : ws.length ≤ i
  · refine .inl ⟨hstop hl, ?_⟩
    rw [List.drop_eq_nil_of_le hl] at k2
    exact ha.nx _ _ _ _ _ (e1.trans e2) wd2' ss2' k2.2
  · have hlt : i < ws.length := Nat.lt_of_not_le hl
    obtain ⟨go, step⟩ := hgo ws[i] (List.getElem?_eq_getElem hlt)
    refine .inr ⟨go, fun σ' H' => ∃ H3 G3 st3, Ex H1 H3 ∧ Wd H3 F G3 H' ∧ Sts X.K Z H3 pv σ' st3 G3 ∧ forG ok fg g d DD (ws.drop (i + 1)) st3, fun σ' H' ⟨H3, G3, st3, e3, wd3, ss3, k3⟩ => ⟨ws.length - (i + 1), by omega, rfl, H3, G3, st3, e3, wd3, ss3, k3⟩, fun x H' y => ?_⟩
    obtain ⟨Hc, gr, rx⟩ := step x H' y
    rw [List.drop_eq_getElem_cons hlt] at k2
    refine ⟨Hc, F, G2', pv, wipeS st2 fg, ws[i], _, wd2'.grow gr, ss2'.mono gr.e0, rx, k2.2, ⟨ha.ex.tabs, fun H4 G4 H4' σ4 st4 e4 wd4 ss4 k4 => ?_⟩⟩
    have e14 : Ex H1 H4 := e2.trans (gr.e0.trans e4)
    refine tS_seq wd4 ss4 k4 ⟨fun H5 G5 H5' σ5 st5 e5 wd5 ss5 k5 => ⟨H5, G5, st5, e14.trans e5, wd5, ss5, k5⟩, ha.rt.up (e1.trans e14), fun H5 G5 H5' σ5 st5 e5 wd5 ss5 k5 => ?_, fun H5 G5 H5' σ5 st5 e5 wd5 ss5 k5 => ⟨H5, G5, st5, e14.trans e5, wd5, ss5, k5⟩, ha.ex.up (e1.trans e14)⟩
    obtain ⟨G6, wd6, ss6⟩ := ss5.dropAll wd5 fg
    exact ha.nx _ _ _ _ _ (e1.trans (e14.trans e5)) wd6 ss6 k5
theorem forG_true : ∀ ws : List W, forG (fun _ => True) fg g d DD ws = forW fg g d DD ws
  | [] => by
    funext st
    exact true_and _
  | w :: ws => by
    funext st
    show (True ∧ _) = _
    rw [true_and, forG_true ws]
    rfl
end
section
variable {X : Cx} {Z : Zx} {E : XS} {tg e : Expr} {da : DE} {g : DG} {body : List Stmt} {d : DS} {pos : Pos}
theorem z_forV {fg : List Nat} (hp : PassesOwn (model X.prog X.w) X.A X.env X.xe) (hc : X.calm = true) (he : PD X Z E e da) (hg : PGD X Z tg g) (hb : PZs X Z E body d)
    (hs : ∀ x, foldedSetIterable e X.env x = pure x := by intro _; rfl) : PZ X Z E (.For tg e body [] pos) (dForV fg da g d) := by
  refine ps_weak (ps_for hp hc (pi_sq he) hg hb hs) fun D σ H q => ?_
  obtain ⟨H0, F, G, pv, st, DD, wd, ss, hd, ha⟩ := q
  refine tE_seq wd ss ha.ex.at hd fun H1 G1 H1' st1 v r e1 wd1 ss1 rr k1 => ?_
  have frz : ∀ {J : It} {ws : List W}, ItOk X.K Z H1 J ws → forW fg g d DD ws st1 → _ := fun {J ws} it k1 => loopG (F := F) (pv := pv) (ok := fun _ => True) (fun i H Hc G st2 σ2 ex wd _ _ => it i H Hc ex wd.ex) wd1 ss1 e1 ha (by rw [forG_true]; exact k1)
  cases rr with
  | w rv => cases rv with
    | lst hs rs => exact .inl ⟨_, rfl, ⟨_, .of (wd1.ex _ _ hs)⟩, frz (it_list (.of hs) rs) k1⟩
    | tup hs rs => exact .inr (.inl ⟨_, rfl, ⟨_, Evl.ex_t wd1.ex hs⟩, frz (it_tup hs rs) k1⟩)
    | str => exact .inr (.inr ⟨_, rfl, frz (it_str _) k1⟩)
    | _ => exact k1.elim
  | @pk i hv =>
    replace k1 : (match at' st1 i with | .mp k (.lst ws) => forG (fun st => at' st i = .mp k (.lst ws)) fg g d DD ws st1 | _ => False) := k1
    cases q : at' st1 i with
    | un => rw [q] at k1; exact k1.elim
    | lo t => rw [q] at k1; exact k1.elim
    | fr _ _ _ _ _ _ => rw [q] at k1; exact k1.elim
    | mp k t =>
      rw [q] at k1
      cases t with
      | lst ws =>
        obtain ⟨v', Gx, Ga, Gb, h1, h2, h3, h4, _⟩ := ss1.mp_at q
        rw [hv] at h1
        cases h1
        cases h3 with
        | @lst p xs _ rs =>
          have hp0 : H1' p = some (.lst xs) := wd1.ow (p, _) (by rw [h4]; simp)
          refine .inl ⟨p, rfl, ⟨xs, .of hp0⟩, loopG (F := F) (pv := pv) (ok := fun st => at' st i = .mp k (.lst ws)) (fun j H Hc G st2 σ2 ex wd ss ok => ?_) wd1 ss1 e1 ha k1⟩
          obtain ⟨v2, Gx2, Ga2, Gb2, g1, g2, g3, g4, _⟩ := ss.mp_at ok
          rw [h2] at g2
          cases g2
          cases g3 with
          | @lst _ ys _ rs2 =>
            have hp1 : H p = some (.lst ys) := wd.ow (p, _) (by rw [g4]; simp)
            refine ⟨fun hl => ⟨ys, .of hp1, by rw [rs2.length]; exact hl⟩, fun w hw => ?_⟩
            obtain ⟨u, u1, u2⟩ := rs2.get hw
            refine ⟨⟨ys, u, .of hp1, u1⟩, fun x H' y => ?_⟩
            obtain ⟨rfl, y⟩ := y
            have z := y ys (.of hp1)
            rw [u1] at z
            cases z
            exact ⟨Hc, Gr.refl wd.ex, u2⟩
      | _ => exact k1.elim
end
end Y
namespace Y
open PySem L2
open PySem.Spec PyProof.Rows
open Evl (Ex)

/-! ### x, ys = a, [..]: the second one owned -/
def dParO (i j : Nat) (a : DE) (dl : DL) : DS := fun D st => a st (fun r st1 => match r with
  | .w x => dl st1 (fun ws st2 => stoT st2 j (.lst ws) fun st3 => sto st3 i (.fz x) D.nx) D.ex
  | _ => False) D.ex
section
variable {X : Cx} {Z : Zx} {E : XS} {a b : Expr} {da : DE} {dl : DL} {pos : Pos}
theorem z_parO {i j : Nat} {x y : Str} {px py pt : Pos} {kt k2 pt2} (hc : X.calm = true) (hN : X.N.Nodup) (hi : X.N[i]? = some x) (hj : X.N[j]? = some y) (hij : i ≠ j)
    (hx : X.env.scope.names.lookup x = some .local) (hy : X.env.scope.names.lookup y = some .local) (ha : PD X Z E a da) (hb : PLD X Z E b dl)
    (hw : swappedStores [.Tuple [.Name x px, .Name y py] kt pt] (.Tuple [a, b] k2 pt2) X.env = pure (some [x, y]))
    (hs : swapsWithSole [.Tuple [.Name x px, .Name y py] kt pt] (.Tuple [a, b] k2 pt2) pos.line X.env = pure false := by rfl)
    (hs1 : starEach [a, b] X.env = (false, eval a X.env) :: starEach [b] X.env := by rfl) (hs2 : starEach [b] X.env = (false, eval b X.env) :: starEach [] X.env := by rfl) :
    PZ X Z E (.Assign [.Tuple [.Name x px, .Name y py] kt pt] (.Tuple [a, b] k2 pt2) pos) (dParO i j da dl) := by
  refine ps_weak (ps_par hc hN hi hj hij hx hy (pa_cons ha (pa_cons hb pa_nil hs2) hs1) hw hs) fun D σ H q => ?_
  obtain ⟨H0, F, G, pv, st, DD, wd, ss, hd, acc⟩ := q
  refine tE_seq wd ss acc.ex.at hd fun H1 G1 H1' st1 v r e1 wd1 ss1 rr k1 => ?_
  cases rr with
  | pk _ => exact k1.elim
  | @w w0 rv =>
    have k1 : dl st1 (fun ws st2 => stoT st2 j (.lst ws) fun st3 => sto st3 i (.fz w0) DD.nx) DD.ex := k1
    refine tL_seq wd1 ss1 (acc.ex.up e1).at k1 fun H2 G2 H2' st2 p xs ws e2 wd2 hF ss2 rs k2 => ?_
    obtain ⟨G3, wd3, ss3, k3⟩ := stoT_ok (Gv := [(p, .lst xs)]) (wd2.hand_own hF) ss2 (.lst rs) k2
    obtain ⟨G4, wd4, ss4, k4⟩ := sto_ok wd3 ss3 (rv.mono e2) k3
    have ss5 := ss4
    rw [List.set_comm _ _ (Ne.symm hij)] at ss5
    exact ⟨_, _, rfl, acc.nx _ _ _ _ _ (e1.trans e2) wd4 ss5 k4⟩
end
end Y
namespace Y
open PySem L2
open PySem.Spec PyProof.Rows
open Evl (Ex)

/-! ### an instance made of a name's own thing -/
section
variable {X : Cx} {Z : Zx} {E : XS} {e : Expr} {es : List Expr} {kws : List Keyword} {ds dk : DA} {p pos : Pos} {x : Str} {C f : Addr} {k n : Nat} {fd : FuncData} {ps : List Str} {c : Ct} {CX' : CXT} {dvs : List V} {dws : List W} {pl : List Src} {ks : List Str} {g : List Value → List Value → List Value}
end
end Y
namespace QE
open PySem PySem.SeqAt
open AutoSeq1 (wpAny_loadPart')
open MeetsSeq MeetsSeq2 MeetsSeq3 SeqRoads2
open GQ (FinOf call_here eqBool_refG)
section
variable {prog : Program} {w : World} {A : Around} {R : Result → Shared → Prop}
end
section
variable {prog : Program} {w : World} {A : Around} {E : Value → Shared → Prop} {s : Shared}
end
end QE
namespace Y
open PySem L2
open PySem.Spec PyProof.Rows
open Evl (Ex)
/-! ### xs.index(x) by == -/
section
variable {X : Cx} {Z : Zx} {K : PySem.W.Frag} {H0 H : Hp}
end
end Y
namespace Y
open PySem L2
open PySem.Spec PyProof.Rows
open Evl (Ex)
/-! ### a name's own thing, frozen where it stands -/
section
variable {X : Cx} {Z : Zx} {E : XS} {e : Expr} {da : DE}
end
end Y
/-! zip(a, b, strict=True) of lists and tuples, also of one of each; enumerate(tuple) -/
namespace QZ
open PySem PySem.Spec PyProof.Rows L2
open PySem.Sem (wp)

/-- a list | a tuple -/
inductive SK where
  | l | t
def SK.It (k : SK) (h : Heap) (it l : Addr) (i : Nat) : Prop := match k with
  | .l => h.IsListIter it l i
  | .t => h.IsTupleIter it l i
def SK.Is (k : SK) (h : Heap) (l : Addr) (items : Array Value) : Prop := match k with
  | .l => h.IsList l items
  | .t => h.IsTuple l items
def SK.nm : SK → String
  | .l => "list_iterator"
  | .t => "tuple_iterator"
section
variable {k : SK} {h h' : Heap} {it l c : Addr} {i : Nat} {items : Array Value}
theorem SK.It.extBut (x : k.It h it l i) (e : Heap.ExtBut c h h') (n : it ≠ c) : k.It h' it l i := by
  cases k with
  | l => exact Heap.IsListIter.extBut x e n
  | t => exact Heap.IsTupleIter.extBut x e n
theorem SK.Is.extBut (x : k.Is h l items) (e : Heap.ExtBut c h h') (n : l ≠ c) : k.Is h' l items := by
  cases k with
  | l => exact Heap.IsList.extBut x e n
  | t => exact Heap.IsTuple.extBut x e n
theorem SK.It.at (x : k.It h it l i) (e : ∀ o, h.get? it = some o → h'.get? it = some o) : k.It h' it l i := by
  cases k with
  | l => exact Heap.IsListIter.at x e
  | t => exact Heap.IsTupleIter.at x e
theorem SK.It.obj (x : k.It h it l i) : ∃ o vs, h.get? it = some o ∧ o.data = .fields vs := by
  cases k with
  | l => obtain ⟨o, e, _, d⟩ := x; exact ⟨o, _, e, d⟩
  | t => obtain ⟨o, e, _, d⟩ := x; exact ⟨o, _, e, d⟩
theorem SK.Is.lt (x : k.Is h l items) : l < h.objs.size := by
  cases k with
  | l => obtain ⟨o, e, _⟩ := x; exact Heap.lt_size e
  | t => obtain ⟨o, e, _⟩ := x; exact Heap.lt_size e
theorem SK.Is.push {o : Obj} (x : k.Is h l items) : k.Is (h.push o) l items := by
  cases k with
  | l => exact Heap.IsList.push x _
  | t => exact Heap.IsTuple.push x _
end
section
variable {prog : Program} {w : World} {A : Around} {E : Value → Shared → Prop} {s : Shared}
theorem next_item {k : SK} {it l : Addr} {i : Nat} {items : Array Value} {x : Value} {Q : Value → Shared → Prop} (hit : k.It s.heap it l i) (hl : k.Is s.heap l items) (hx : items[i]? = some x)
    (hQ : ∀ h', k.It h' it l (i + 1) → Heap.SameBut it s.heap h' → Q x { s with heap := h' }) : wpAny (model prog w) A (Builtin.SmallTypes.nextOf (.ref it)) Q E s := by
  cases k with
  | l => exact wpAny_nextOf_list_item hit hl hx hQ
  | t => exact RZ.nextOf_tuple_item hit hl hx hQ
theorem next_end {k : SK} {it l : Addr} {i : Nat} {items : Array Value} {Q : Value → Shared → Prop} (hh : A.handled = none) (hit : k.It s.heap it l i) (hl : k.Is s.heap l items) (hx : items[i]? = none)
    (hE : ∀ h' e, Heap.ExtBut it s.heap h' → (∃ o, h'.get? e = some o ∧ o.cls = .type "StopIteration") → E (.ref e) { s with heap := h' }) : wpAny (model prog w) A (Builtin.SmallTypes.nextOf (.ref it)) Q E s := by
  cases k with
  | l => exact wpAny_nextOf_list_end hh hit hl hx hE
  | t => exact RZ.nextOf_tuple_end hh hit hl hx hE
end

/-! ### the machine's zip that is strict -/
section
variable {prog : Program} {w : World} {A : Around} {E : Value → Shared → Prop} {s : Shared} {ka kb : SK}
end

/-! ### zip(.., strict=True) made -/
section
variable {prog : Program} {w : World} {A : Around} {E : Value → Shared → Prop} {s : Shared}
end
end QZ
namespace QZ
open PySem PySem.Spec PyProof.Rows L2
open PySem.Sem (wp)
section
variable {prog : Program} {w : World} {A : Around} {E : Value → Shared → Prop} {s : Shared} {ka kb : SK}
end

/-! ### the walk -/
def SK.Sq (k : SK) (K : PySem.W.Frag) (H : Hp) (a : Addr) (xs : List V) : Prop := match k with
  | .l => SqL K H a xs
  | .t => SqT K H a xs
section
variable {X : Cx} {pins : List (Addr × Obj)} {σ : L2.St} {H : Hp} {s : Shared} {k : SK} {a : Addr} {xs ys : List V}
theorem SK.Sq.is (I : Inv X pins σ H s) (h : k.Sq X.K H a xs) : ∃ its, Vals xs its ∧ k.Is s.heap a its.toArray := by
  cases k with
  | l => obtain ⟨its, rv, p, _⟩ := I.list h; exact ⟨its, rv, p.isList⟩
  | t => obtain ⟨its, rv, p, _⟩ := I.tuple h; exact ⟨its, rv, p⟩
theorem SK.Sq.inj (I : Inv X pins σ H s) (h : k.Sq X.K H a xs) (h' : k.Sq X.K H a ys) : xs = ys := by
  cases k with
  | l => exact I.list_inj h h'
  | t => exact I.tuple_inj h h'
end
end QZ
namespace QZ
open PySem PySem.Spec PyProof.Rows L2
open PySem.Sem (wp)
/-! ### enumerate of a list, of a tuple -/
theorem SK.draws (k : SK) {prog : Program} {w : World} {A : Around} (hh : A.handled = none) (it l : Addr) (hne : l ≠ it) (items : Array Value) :
    Draws prog w A it [it, l] items.size (fun i v => items[i]? = some v) (fun i h => k.It h it l i ∧ k.Is h l items) where
  live := fun _ _ st => let ⟨o, _, ho, _⟩ := st.1.obj; ⟨o, ho⟩
  frame := fun _ _ _ st hk => ⟨st.1.at fun o e => hk it (by simp) o e, by
    cases k with
    | l => exact Heap.IsList.at st.2 fun o e => hk l (by simp) o e
    | t => exact Heap.IsTuple.at st.2 fun o e => hk l (by simp) o e⟩
  item := fun i s Q E hi st hQ => by
    refine next_item st.1 st.2 (x := items[i]) (by simp [hi]) fun h' hit' hs' => ?_
    exact hQ _ h' s.toks (by simp [hi]) ⟨hit', st.2.extBut hs'.extBut hne⟩ hs'
  done := fun s Q E st hE => next_end hh st.1 st.2 (by simp) hE
theorem meets_enum_newT (l : Addr) (items : Array Value) (n : Nat) (dct : Option Addr) (sl : Array (Option Value)) :
    PySem.Meets (Builtin.«enumerate.__new__» ⟨[.type "enumerate", .ref l], []⟩) (fun _ R s => s.heap.get? l = some { cls := .type "tuple", dict := dct, data := .seq items n, slots := sl } ∧
      R (.ok (.ret (.ref (s.heap.push { cls := .type "tuple_iterator", data := .fields #[.ref l, .int 0 0] }).objs.size)))
        { s with heap := (s.heap.push { cls := .type "tuple_iterator", data := .fields #[.ref l, .int 0 0] }).push { cls := .type "enumerate", data := .fields #[.none, .bool false, .ref s.heap.objs.size, rawInt 0, .none, .none] } }) :=
  .of_wp fun prog w A R s h => by
    obtain ⟨hp, g, d, tk, os⟩ := s; obtain ⟨hl, h⟩ := h
    have hsub := sub_enumerate
    have hL : Heap.IsTuple (Shared.heap ⟨hp, g, d, tk, os⟩) l items := ⟨_, hl, rfl, n, rfl⟩
    wp_walk using AutoSeq1.wpAny_loadPart' hl
    refine wpAny_stack_any fun st => wpAny_pure ?_
    split
    · rename_i c _ _ _ _ _
      cases (c == Value.type "enumerate")
      · wp_walk using AutoSeq1.wpAny_loadPart' hl, wpAny_pyIter_tuple hL
        exact ⟨_, rfl, h⟩
      · wp_walk using AutoSeq1.wpAny_loadPart' hl, wpAny_pyIter_tuple hL
        exact ⟨_, rfl, h⟩
    · wp_walk using AutoSeq1.wpAny_loadPart' hl, wpAny_pyIter_tuple hL
      exact ⟨_, rfl, h⟩
section
variable {prog : Program} {w : World} {A : Around} {E : Value → Shared → Prop} {s : Shared}
theorem call_enumT {l : Addr} {items : Array Value} {Q : Value → Shared → Prop} (hL : s.heap.IsTuple l items)
    (h : ∀ h', IsEnum h' (s.heap.objs.size + 1) s.heap.objs.size 0 .none → h'.IsTupleIter s.heap.objs.size l 0 → h'.objs.size = s.heap.objs.size + 2 →
      (∀ b o, s.heap.get? b = some o → h'.get? b = some o) → Q (.ref (s.heap.objs.size + 1)) { s with heap := h' }) :
    wpAny (model prog w) A (call (.type "enumerate") [.ref l]) Q E s := by
  obtain ⟨⟨c, dct, dt, sl⟩, hl, hc, n, hd⟩ := hL
  replace hc : c = .type "tuple" := hc
  replace hd : dt = .seq items n := hd
  subst hc hd
  refine callType_new F.called_enumerate (by decide) (F.typeCall_enumerate_1 _) (F.newCall_enumerate_1 _) (fun obj => F.args_object_init_2 obj _) F.entry_enumerate_new
    (meets_enum_newT l items n dct sl) ⟨hl, ?_⟩
  have hz : (s.heap.push { cls := .type "tuple_iterator", data := .fields #[.ref l, .int 0 0] }).objs.size = s.heap.objs.size + 1 := Heap.size_push ..
  show _ ∧ _
  rw [hz]
  have he : IsEnum ((s.heap.push { cls := .type "tuple_iterator", data := .fields #[.ref l, .int 0 0] }).push
      { cls := .type "enumerate", data := .fields #[.none, .bool false, .ref s.heap.objs.size, rawInt 0, .none, .none] }) (s.heap.objs.size + 1) s.heap.objs.size 0 .none := by
    have := Heap.get?_push_size (s.heap.push { cls := .type "tuple_iterator", data := .fields #[.ref l, .int 0 0] })
      (o := { cls := .type "enumerate", data := .fields #[.none, .bool false, .ref s.heap.objs.size, rawInt 0, .none, .none] }) rfl
    rw [hz] at this
    exact this
  refine ⟨⟨_, he, rfl⟩, h _ he ⟨_, Heap.get?_push_of_some _ (Heap.get?_push_size _ rfl), rfl, rfl⟩ (by rw [Heap.size_push, hz]) fun b o e => Heap.get?_push_of_some _ (Heap.get?_push_of_some _ e)⟩
theorem call_enumS {k : SK} {l : Addr} {items : Array Value} {Q : Value → Shared → Prop} (hL : k.Is s.heap l items)
    (h : ∀ h', IsEnum h' (s.heap.objs.size + 1) s.heap.objs.size 0 .none → k.It h' s.heap.objs.size l 0 → h'.objs.size = s.heap.objs.size + 2 →
      (∀ b o, s.heap.get? b = some o → h'.get? b = some o) → Q (.ref (s.heap.objs.size + 1)) { s with heap := h' }) :
    wpAny (model prog w) A (call (.type "enumerate") [.ref l]) Q E s := by
  cases k with
  | l => exact call_enumerate_list hL h
  | t => exact call_enumT hL h
end
section
variable {prog : Program} {w : World} {A : Around} {E : Value → Shared → Prop} {s : Shared}
theorem enumS_end {k : SK} {e it l : Addr} {n : Nat} {items : Array Value} {i : Int} {old : Value} {Q : Option Value → Shared → Prop} (hh : A.handled = none)
    (he : IsEnum s.heap e it i old) (hit : k.It s.heap it l n) (hl : k.Is s.heap l items) (hx : items[n]? = none)
    (hQ : ∀ h', Heap.ExtBut it s.heap h' → Q none { s with heap := h' }) : wpAny (model prog w) A (pyNext (.ref e)) Q E s := by
  have hT : s.TypeIs (.ref e) "enumerate" := ⟨_, he, rfl⟩
  unfold pyNext
  refine wpAny_bind (wpAny_attempt (wpAny_callSpecial?_slot (name := Str.ofString "__next__") hT F.slot_enumerate_next
    (wpAny_call_entry F.slot_enumerate_next hT F.entry_enumerate_next ?_ (F.args_enumerate_next_1 _))))
  show wpAny _ _ (field (.ref e) 2 >>= _) _ _ _
  refine wpAny_bind (wpAny_field he rfl (x := .ref it) rfl ?_)
  refine wpAny_bind (next_end (by simpa using hh) hit hl hx fun h' x he' hx' => ?_)
  obtain ⟨o, ho, hc⟩ := hx'
  refine wpAny_bind (wpAny_isInstance (T := "StopIteration") (b := true) ⟨o, ho, hc⟩ isSubtype_stop ?_)
  exact wpAny_pure (hQ _ he')
end
/-- the sequence at a as it stands at each turn, each item in a new pair -/
def IteS (k : SK) (K : PySem.W.Frag) (a : Addr) : It :=
  ⟨fun i H => ∃ (xs : List V) (x : V), k.Sq K H a xs ∧ xs[i]? = some x, fun i H v H' => ∃ T x, v = .ref T ∧ H T = none ∧ H' = upd H T (.tup [.int (i : Nat), x]) ∧ ∀ xs, k.Sq K H a xs → xs[i]? = some x, fun i H => ∃ xs : List V, k.Sq K H a xs ∧ xs.length ≤ i⟩
theorem turn_enumS {k : SK} {P : Program} {w : World} {K : PySem.W.Frag} {elts : List Expr} {kk : Nat} {tpos : Pos} (a e it : Addr) :
    Turn P w K (.Tuple elts kk tpos) (IteS k K a) [e, it] e (fun i h => (∃ old, IsEnum h e it ((i : Nat) : Int) old) ∧ k.It h it a i ∧ e ≠ it ∧ a ≠ it ∧ a ≠ e) where
  mem := by simp
  obj := fun i h st b hb => by
    obtain ⟨⟨old, he⟩, hi, _⟩ := st
    obtain ⟨o, vs, ho, hd⟩ := hi.obj
    have e' : b = e ∨ b = it := by simpa using hb
    rcases e' with z | z
    · rw [z]; exact ⟨_, he, fun v q => nomatch q⟩
    · rw [z]; exact ⟨o, ho, fun v q => by rw [hd] at q; cases q⟩
  keep := fun i h h' st k => let ⟨⟨old, he⟩, hi, hne⟩ := st; ⟨⟨old, k e (by simp) _ he⟩, hi.at fun o q => k it (by simp) o q, hne⟩
  item := by
    intro X hP hw hK hc i pins s σ H E I hf st hg
    subst hP hw hK
    obtain ⟨⟨old, he⟩, hit, hne, hai, hae⟩ := st
    obtain ⟨xs, x, hq, hx⟩ := hg
    obtain ⟨its, rv, p⟩ := hq.is I
    obtain ⟨u, hu, ru⟩ := rv.get hx
    have hel : e < s.heap.objs.size := Heap.lt_size he
    have hil : it < s.heap.objs.size := by obtain ⟨_, _, q, _⟩ := hit.obj; exact Heap.lt_size q
    have hlt : i < its.toArray.size := by
      have := (List.getElem?_eq_some_iff.mp hu).1
      simpa using this
    refine wpAny_pyNext_enum_itemD (k.draws (by simpa using I.ok.hd hc) it a hai its.toArray) he ⟨hit, p⟩ hlt hne (by simp [hne, Ne.symm hae]) fun x1 h' tk hx1 ho hit' hT hsz hk => ?_
    have ex : x1 = u := by
      have q : its[i]? = some x1 := by simpa using hx1
      rw [hu] at q
      exact (Option.some.inj q).symm
    subst ex
    refine ⟨_, rfl, wpAny_letOwnedTupleGo_enum (s := { s with heap := h', toks := tk + 1 }) ho fun h'' he' sb => ?_⟩
    have hT2 : h''.get? s.heap.objs.size = some { cls := .type "tuple", data := .seq #[.int i tk, x1] } := (sb.2 _ (Nat.ne_of_gt hel)).trans hT
    have new : ObjOk X.prog X.w (upd H s.heap.objs.size (.tup [.int (i : Nat), x])) h'' s.heap.objs.size (.tup [.int (i : Nat), x]) :=
      ⟨by show 2 ≤ sizeLine; decide, [.int i tk, x1], .cons ⟨_, rfl⟩ (.cons ru .nil), ⟨_, hT2, rfl, _, rfl⟩⟩
    have I1 : Inv X pins σ (upd H s.heap.objs.size (.tup [.int (i : Nat), x])) { s with heap := h'', toks := tk + 1 } :=
      I.turnedNew (ch := [e, it]) (fun b ob hb q => (sb.2 b (fun z => hb (by simp [z]))).trans (hk b ob (fun z => hb (by simp [z])) (fun z => hb (by simp [z])) q)) hf (Nat.le_refl _) new
    refine ⟨.ref s.heap.objs.size, _, I1, rfl, ⟨_, x, rfl, I.hok.fresh (Nat.le_refl _), rfl, fun ys hy => by rw [hy.inj I hq]; exact hx⟩, ⟨⟨x1, ?_⟩, hit'.1.at fun o q => (sb.2 it (Ne.symm hne)).trans q, hne, hai, hae⟩, fun b hb => ?_⟩
    · have e1 : ((i + 1 : Nat) : Int) = (i : Int) + 1 := by omega
      rw [e1]; exact he'
    · have hb' : b < s.heap.objs.size := by
        have e' : b = e ∨ b = it := by simpa using hb
        rcases e' with z | z
        · rw [z]; exact hel
        · rw [z]; exact hil
      rw [upd_ne (Nat.ne_of_lt hb')]
      exact (hf b hb).1
  done := by
    intro X hP hw hK hc i pins s σ H E I hf st hg
    subst hP hw hK
    obtain ⟨⟨old, he⟩, hit, hne, hai, hae⟩ := st
    obtain ⟨xs, hq, hx⟩ := hg
    obtain ⟨its, rv, p⟩ := hq.is I
    obtain ⟨f0, f1, f2, f3, f4, f5⟩ := hf it (by simp)
    have hl := rv.length
    exact enumS_end (I.ok.hd hc) he hit p (by simp; omega) fun h' eb => ⟨rfl, I.turned (t' := s.toks) (fun b o hb q => eb b o hb q) f0 f1 f3 f4 f5⟩
  self := fun A i s Q E st h => let ⟨⟨_, he⟩, _⟩ := st; wpAny_pyIter_enum he h
def iEnumS (K : PySem.W.Frag) (ta : TA) : TI := fun σ H R => ta σ H fun vs H1 => ∃ (k : SK) (a : Addr) (xs : List V), vs = [.ref a] ∧ k.Sq K H1 a xs ∧ R (IteS k K a) H1
theorem pi_enumS {X : Cx} {e : Expr} {ta : TA} {p pos tpos : Pos} {elts : List Expr} {kk : Nat} (hg : Gl X "enumerate") (hm : X.mg "enumerate" = none) (ha : PA X [e] ta) (hs : starEach [e] X.env = [(false, eval e X.env)] := by rfl) :
    PI X (.Tuple elts kk tpos) (.Call (.Name "enumerate" p) [e] [] pos) (iEnumS X.K ta) := by
  refine ⟨fun pins s σ H R I h => ?_⟩
  refine Call_ (ld_blt I hg hm boot_enumerate (PyProof.Rows.callWith_type1 (thn (ha.run pos pins s σ H _ I h) fun us s1 ⟨vs, H1, I1, r1, q1⟩ => ?_) hs rfl))
  obtain ⟨k, a, xs, ex, hq, q⟩ := q1
  subst ex
  cases r1 with
  | cons r rr =>
    cases rr
    cases r
    obtain ⟨its, rv, p'⟩ := hq.is I1
    refine call_enumS p' fun h' he hit hsz hk => wpAny_pyIter_enum he ?_
    have I2 : Inv X pins σ H1 { s1 with heap := h' } := I1.kept (t' := s1.toks) hk
    have hal := p'.lt
    refine ⟨s1.heap.objs.size + 1, [s1.heap.objs.size + 1, s1.heap.objs.size], _, _, H1, rfl, I2, turn_enumS a (s1.heap.objs.size + 1) s1.heap.objs.size, ⟨⟨.none, he⟩, hit, Nat.succ_ne_self _, Nat.ne_of_lt hal, Nat.ne_of_lt (Nat.lt_succ_of_lt hal)⟩, fun b hb => ?_, q⟩
    have e' : b = s1.heap.objs.size + 1 ∨ b = s1.heap.objs.size := by simpa using hb
    have hle : s1.heap.objs.size ≤ b := by
      rcases e' with z | z
      · rw [z]; exact Nat.le_add_right _ _
      · rw [z]; exact Nat.le_refl _
    exact I1.fpOk hle (I1.hok.fresh hle)
end QZ
namespace Y
open PySem L2 QZ
open Evl (Ex)
/-! ### zip, enumerate -/
def enW (us : List W) : List W := us.mapIdx fun i u => .tup [.int (i : Nat), u]
def W.sk : W → Option (SK × List W)
  | .lst ws => some (.l, ws)
  | .tup ws => some (.t, ws)
  | _ => none
def iEn (a : DA) : DI := fun st k x => a st (fun rs st1 => match rs with
  | [.w u] => match u.sk with
    | some (_, us) => k (enW us) st1
    | _ => False
  | _ => False) x
section
variable {X : Cx} {Z : Zx} {E : XS} {tg e e2 : Expr} {es : List Expr} {ds : DA} {K : PySem.W.Frag} {H0 : Hp} {a b : Addr} {xs ys : List V} {us vs : List W} {ka kb : SK}
theorem sk_ex {H H' : Hp} (e : Ex H H') {k : SK} (h : k.Sq K H a xs) : k.Sq K H' a xs := by
  cases k with
  | l => exact Evl.ex_l e h
  | t => exact Evl.ex_t e h
theorem sk_rep {v : V} {w : W} {k : SK} {ws : List W} (h : Rep K Z H0 v w) (e : w.sk = some (k, ws)) : ∃ a xs, v = .ref a ∧ k.Sq K H0 a xs ∧ Reps K Z H0 xs ws := by
  cases w with
  | lst us => cases e; cases h with | lst h r => exact ⟨_, _, rfl, .of h, r⟩
  | tup us => cases e; cases h with | tup h r => exact ⟨_, _, rfl, h, r⟩
  | _ => cases e
theorem it_enum {k : SK} (ha : k.Sq K H0 a xs) (rx : Reps K Z H0 xs us) : ItOk K Z H0 (IteS k K a) (enW us) := fun i H Hc e e' => by
  have sa := sk_ex (e.trans e') ha
  refine ⟨fun h => ⟨xs, sa, by rw [rx.length]; simpa [enW] using h⟩, fun w hw => ?_⟩
  unfold enW at hw
  rw [List.getElem?_mapIdx] at hw
  obtain ⟨u, h1, rfl⟩ := Option.map_eq_some_iff.mp hw
  obtain ⟨x, h2, r⟩ := rx.get h1
  refine ⟨⟨xs, x, sa, h2⟩, fun z H' yl => ?_⟩
  obtain ⟨T, x', rfl, hT, rfl, f1⟩ := yl
  have g1 := f1 xs sa
  rw [h2] at g1; cases g1
  refine ⟨_, Gr.one (o := .tup [.int (i : Nat), x]) e' hT, ?_⟩
  have ex : Ex Hc (upd Hc T (.tup [.int (i : Nat), x])) := (Gr.one (o := .tup [.int (i : Nat), x]) e' hT).e0
  exact .tup (SqT.of upd_same) (.cons .int (.cons (r.mono (e.trans ex)) .nil))
theorem pid_enum {p pos tpos : Pos} {elts : List Expr} {kk : Nat} (hg : Gl X "enumerate") (hm : X.mg "enumerate" = none) (ha : PAD X Z E [e] ds) (hs : starEach [e] X.env = [(false, eval e X.env)] := by rfl) :
    PID X Z E (.Tuple elts kk tpos) (.Call (.Name "enumerate" p) [e] [] pos) (iEn ds) := by
  refine pi_weak (pi_enumS hg hm ha hs) fun σ H Q q => ?_
  obtain ⟨H0, F, G, pv, st, k, kx, wd, ss, hd, hk, hx⟩ := q
  refine tA_seq wd ss hx hd fun H1 G1 H1' st1 vs rs e1 wd1 ss1 rr k1 => ?_
  split at k1
  · rename_i u
    cases rr with
    | cons r rr =>
      cases rr
      cases r with | w rv =>
      split at k1
      · rename_i ka us g1
        obtain ⟨a, xs, rfl, h1, q1⟩ := sk_rep rv g1
        exact ⟨ka, a, xs, rfl, sk_ex wd1.ex h1, hk _ _ _ _ _ _ e1 wd1 ss1 (it_enum h1 q1) k1⟩
      · exact k1.elim
  · exact k1.elim
end
end Y
namespace Y
open PySem L2
open PySem.Spec PyProof.Rows
open Evl (Ex)
/-! ### xs + ys as an own list -/
section
variable {X : Cx} {Z : Zx} {E : XS} {a b : Expr} {da db : DE} {pos : Pos}
end
end Y
/-! xs[a::c], c above 0 -/
namespace Y
open PySem L2
open PySem.Spec PyProof.Rows
def stepI (n a c : Nat) : List Nat := (List.range ((n - a + c - 1) / c)).map fun k => a + c * k
def stepX {α : Type} (xs : List α) (a c : Nat) : List α := (stepI xs.length a c).filterMap (xs[·]?)
section
variable {X : Cx} {e : Expr} {te : TE} {lo : Option Expr} {l : Option Nat}
end
end Y
namespace Y
open PySem L2
open PySem.Spec PyProof.Rows
open Evl (Ex)
/-! ### xs[a::c] of a list -/
theorem Reps_at {K : PySem.W.Frag} {Z : Zx} {H : Hp} : ∀ {xs : List V} {ws : List W} (j : Nat), Reps K Z H xs ws → (xs[j]? = none ∧ ws[j]? = none) ∨ ∃ x v, xs[j]? = some x ∧ ws[j]? = some v ∧ Rep K Z H x v
  | _, _, j, .nil => .inl ⟨by simp, by simp⟩
  | _, _, 0, .cons h r => .inr ⟨_, _, rfl, rfl, h⟩
  | _, _, j + 1, .cons h r => by
    have := Reps_at j r
    simpa using this
theorem Reps_pick {K : PySem.W.Frag} {Z : Zx} {H : Hp} {xs : List V} {ws : List W} (r : Reps K Z H xs ws) : ∀ js : List Nat, Reps K Z H (js.filterMap (xs[·]?)) (js.filterMap (ws[·]?))
  | [] => .nil
  | j :: js => by
    rcases Reps_at j r with ⟨h1, h2⟩ | ⟨x, v, h1, h2, h3⟩
    · rw [List.filterMap_cons_none h1, List.filterMap_cons_none h2]
      exact Reps_pick r js
    · rw [List.filterMap_cons_some h1, List.filterMap_cons_some h2]
      exact .cons h3 (Reps_pick r js)
theorem Reps.step {K : PySem.W.Frag} {Z : Zx} {H : Hp} {xs : List V} {ws : List W} (r : Reps K Z H xs ws) (a c : Nat) : Reps K Z H (stepX xs a c) (stepX ws a c) := by
  unfold stepX
  rw [r.length]
  exact Reps_pick r _
section
variable {X : Cx} {Z : Zx} {E : XS} {e : Expr} {da : DE} {lo : Option Expr} {l : Option Nat} {c k : Nat} {p1 p3 pos : Pos}
end
end Y
/-! x(lambda: e), told so that all but one table and one new code object stay -/
namespace QL
open PySem PySem.Spec PyProof.Rows L2 LamX
/-- what a table tells: code objects of the name q that are known -/
def Told (H : Hp) (Kn : Addr → Prop) (q : Str) (ps : Array Value) : Prop :=
  TriplesOk ps.toList ∧ ∀ (pos : Pos) (cv : Value), codeAmong pos ps.toList = some cv → ∃ c, cv = .ref c ∧ H c = some (CodeO c q) ∧ Kn c
/-- behind the making of a lambda: nothing new, or one new code object c' and the table at P grown -/
def Made (H : Hp) (P : Addr) (q : Str) (Kn : Addr → Prop) (c' : Addr) (H1 : Hp) : Prop :=
  (H1 = H ∧ Kn c' ∧ H c' = some (CodeO c' q)) ∨ ∃ ps more : Array Value, H P = some (.tbl ps) ∧ H c' = none ∧ H1 = upd (upd H P (.tbl (ps ++ more))) c' (CodeO c' q) ∧ TriplesOk (ps ++ more).toList ∧
    ∀ (pos : Pos) (cv : Value), codeAmong pos (ps ++ more).toList = some cv → codeAmong pos ps.toList = some cv ∨ cv = .ref c'
section
variable {X : Cx} {pins : List (Addr × Obj)} {σ : L2.St} {H HZ : Hp} {s s1 : Shared}
theorem make3 {Kn : Addr → Prop} {c P : Addr} {params : Arguments} {body : Expr} {scope : Scope} {pos : Pos} {E : Value → Shared → Prop} {Q : Value → Shared → Prop} {ps : Array Value} (I : Inv X pins σ H s) (TB : TabB X.base X.mg c P) (hcode : X.env.code = .ref c)
    (hP : H P = some (.tbl ps)) (hT : Told H Kn (X.env.qual ++ "<lambda>") ps) (hdef : defaultsOf params X.env = ([], [])) (hfree : ∀ y ∈ scope.names, y.2 = .free → ∃ c, X.env.cells.lookup y.1 = some c)
    (h : ∀ (f c' : Addr) (pm ctv : Value) (H1 : Hp) (s' : Shared), Inv X pins σ H1 s' → Made H P (X.env.qual ++ "<lambda>") Kn c' H1 → H1 c' = some (CodeO c' (X.env.qual ++ "<lambda>")) →
      s'.heap.get? f = some (PySem.W.kla_obj "<lambda>" (X.env.qual ++ "<lambda>") params body scope (cloFrom X.env.cells scope.names []) pm c' ctv) → H1 f = none → f ∉ frs X.stack → Q (.ref f) s') :
    wpAny (model X.prog X.w) X.A (eval (.Lambda params body scope pos) X.env) Q E s := by
  obtain ⟨ht, ha⟩ := hT
  refine PySem.W.kla_eval hdef ?_
  have bP : s.heap.BuiltinsAt X.mg P := TB.bm.keeps I.bk
  have hP' : s.heap.get? P = some { cls := .none, data := .fields ps } := I.hok P _ hP
  have nofr : ∀ f, s.heap.objs.size ≤ f → f ∉ frs X.stack := fun f hf z => by
    rcases List.mem_cons.mp (I.stkSub _ z) with e | e
    · have h1 := I.lt
      rw [← e] at h1
      exact Nat.lt_irrefl _ (Nat.lt_of_lt_of_le h1 hf)
    · exact I.nofs hf e
  cases hc : codeAmong pos ps.toList with
  | none =>
    refine PySem.W.kla_makeFunction (mg := X.mg) (c := c) (P := P) (ps := ps) (closure_ok hfree) I.ok.glob (I.mod.glob.keeps I.bk) hcode (TB.code.keeps I.bk) hP' ht hc TB.gP bP fun c' ctv h' tk hx hge hlt hrec htb => ?_
    obtain ⟨c2, oc, vs, t, e2, hoc, hd, hv⟩ := hrec
    cases e2
    have hsz : s.heap.objs.size ≤ h'.objs.size := Nat.le_trans hge (Nat.le_of_lt hlt)
    have nC : H c' = none := I.hok.fresh hge
    have I1 := inv_table (t' := tk) (more := #[rawInt pos.line, rawInt pos.col, .ref c']) (h' := h'.push (PySem.W.kla_obj "<lambda>" (X.env.qual ++ "<lambda>") params body scope (cloFrom X.env.cells scope.names []) ((X.mg "__name__").getD .none) c' ctv)) I hP
      (fun b o hb e => Heap.get?_push_of_some _ (hx b o hb e)) (Heap.get?_push_of_some _ htb) hge ⟨oc, vs, t, Heap.get?_push_of_some _ hoc, hd, hv⟩
    have eL : (ps ++ #[rawInt pos.line, rawInt pos.col, .ref c']).toList = ps.toList ++ [rawInt pos.line, rawInt pos.col, .ref c'] := by simp
    refine h h'.objs.size c' ((X.mg "__name__").getD .none) ctv _ _ I1 (.inr ⟨ps, _, hP, nC, rfl, by rw [eL]; exact PySem.TriplesOk_snoc _ _ _ _ ht, fun p' cv hcv => ?_⟩) upd_same (Heap.get?_push_size _ rfl) ?_ (nofr _ hsz)
    · rw [eL] at hcv
      exact among_app _ ht hcv
    · have n1 : h'.objs.size ≠ c' := Nat.ne_of_gt hlt
      have n2 : h'.objs.size ≠ P := Nat.ne_of_gt (Nat.lt_of_lt_of_le (Heap.lt_size hP') hsz)
      rw [upd_ne n1, upd_ne n2]
      exact I.hok.fresh hsz
  | some cv =>
    obtain ⟨c', e, hco, hk⟩ := ha pos cv hc
    subst e
    refine PySem.W.kla_makeFunctionHit (mg := X.mg) (c := c) (P := P) (ps := ps) (closure_ok hfree) I.ok.glob (I.mod.glob.keeps I.bk) hcode (TB.code.keeps I.bk) hP' ht hc bP fun ctv h' tk hx hsz => ?_
    have I1 : Inv X pins σ H { s with heap := h'.push (PySem.W.kla_obj "<lambda>" (X.env.qual ++ "<lambda>") params body scope (cloFrom X.env.cells scope.names []) ((X.mg "__name__").getD .none) c' ctv), toks := tk } := I.kept fun b o e => Heap.get?_push_of_some _ (hx b o e)
    exact h h'.objs.size c' ((X.mg "__name__").getD .none) ctv H _ I1 (.inl ⟨rfl, hk, hco⟩) hco (Heap.get?_push_size _ rfl) (I.hok.fresh hsz) (nofr _ hsz)
/-- x(), in the def that got the lambda; what is wished of an error may ask for that def's variables -/
theorem act3 {CXg : CXT} {Eg : XK} {Ng : List Str} {qg : Str} {sg : Scope} {g f c' : Addr} {cdg pm ctv : Value} {params : Arguments} {body : Expr} {scope : Scope} {k i : Nat} {a : Str} {pn : List (Addr × Obj)} {xe : Value → Shared → Prop} {W : WX} {t : XK → TE} {p1 p2 : Pos}
    (I : Inv X pins σ H s) (L : LamS X.env.scope scope) (hf : s.heap.get? f = some (PySem.W.kla_obj "<lambda>" (X.env.qual ++ "<lambda>") params body scope (cloFrom X.env.cells scope.names []) pm c' ctv)) (hfn : H f = none) (hfr : f ∉ frs X.stack)
    (hbind : bindArgs (PySem.W.kla_fn "<lambda>" (X.env.qual ++ "<lambda>") params body scope (cloFrom X.env.cells scope.names []) pm (.ref c') ctv) ⟨[], []⟩ = pure [])
    (tk : Takes ((cxOf CXg X.prog X.w X.K X.mg X.base Ng qg sg g cdg X.A X.stack s H Eg).tr pn xe) W) (hr : Room (k + 1) (X.A.deeper (envOfC qg sg s.heap.objs.size g cdg)))
    (hbody : ∀ (A : Around) (outer : List Env) (s : Shared) (H : Hp) (E : XK), Room k (A.deeper (lamEnv X scope s.heap.objs.size f c')) → PE (lamCx X A outer s H E scope f c') body (t E))
    (hN : Ng[i]? = some a) (hv : Vis sg a) (hd : (a == ("__debug__" : Str)) = false := by decide) (hcd : (a == ("__classdict__" : Str)) = false := by decide) :
    PE ((cxOf CXg X.prog X.w X.K X.mg X.base Ng qg sg g cdg X.A X.stack s H Eg).tr pn xe) (.Call (.Name a p1) [] [] p2)
      (fun σZ HZ Q => σZ[i]? = some (some (.ref f)) ∧ HZ c' = some (CodeO c' (X.env.qual ++ "<lambda>")) ∧ t (fun cls d H => W cls d σZ H) σ HZ Q) := by
  refine ⟨fun pinsZ sZ σZ HZ Q IZ h => ?_⟩
  obtain ⟨hs, hc, ht⟩ := h
  refine wpAny_Call_Name_kw (thn ((pe_var (pos := p1) (i := i) hN hv hd hcd).run pinsZ sZ σZ HZ (fun v H1 => v = .ref f ∧ H1 = HZ) IZ ⟨.ref f, hs, rfl, rfl⟩) fun u s1 ⟨v, H1, I1, r1, q1⟩ => ?_)
  obtain ⟨ev, eH⟩ := q1
  subst ev
  rw [eH] at I1
  obtain rfl : u = Value.ref f := r1
  have of1 : s1.heap.get? f = some (PySem.W.kla_obj "<lambda>" (X.env.qual ++ "<lambda>") params body scope (cloFrom X.env.cells scope.names []) pm c' ctv) := I1.base.keep f _ hf hfn hfr (fun z => nomatch (show f ∈ ([] : List Addr) from z))
  refine PySem.W.callWith_F0 ⟨_, _, _, _, of1⟩ ?_
  have un : Un (frs X.stack) [] H HZ s.heap s1.heap := I1.base
  obtain ⟨⟨oc, vs, tt, hoc, hdc, hvc⟩, _, _⟩ := I1.hok c' _ hc
  have rc : codeAny (model X.prog X.w) (X.A.deeper (envOfC qg sg s.heap.objs.size g cdg)) (.call (.ref f) ⟨[], []⟩) (CR (L2.CX X.prog X.w) (envOfC qg sg s.heap.objs.size g cdg :: X.stack) X.prog X.w HZ s1 Q (fun cls d H => W cls d σZ H)) s1 := by
    refine PySem.W.kla_callFunE hr.depth of1 rfl L.co L.gen rfl ⟨c', oc, vs, tt, rfl, hoc, hdc, hvc⟩ ?_
    rw [hbind]
    refine wpAny_pure (wpAny_newFunctionEnv (fun y hy => (L.own y hy).2) (fun y hy => absurd hy (by simp)) (fun h₁ hns hsb => ⟨I1.nolimit.fresh _ hsb, ?_⟩) L.kind)
    show codeAny _ _ (.expr body (lamEnv X scope s1.heap.objs.size f c')) _ _
    have kp : ∀ b o, s1.heap.get? b = some o → h₁.get? b = some o := fun b o e => hsb.extBut b o (Nat.ne_of_lt (Heap.lt_size e)) (Heap.get?_push_of_some _ e)
    have J : Inv (lamCx X (X.A.deeper (envOfC qg sg s.heap.objs.size g cdg)) (envOfC qg sg s.heap.objs.size g cdg :: X.stack) s1 HZ (fun cls d H => W cls d σZ H) scope f c') [] σ HZ { s1 with heap := h₁, toks := s1.toks + ([] : List (Str × Value)).length } :=
      lam_start2 I L I1.env0 hr.hd un hns kp
    refine PySem.W.kla_codeExpr (wpAny_mono ((hbody _ _ s1 HZ _ (hr.deeper _)).run [] _ _ HZ Q J ht) (fun v s' hq => ?_) fun e s' hq => hq)
    obtain ⟨w', H', J', rv, q⟩ := hq
    exact ⟨w', H', J'.os, J'.bare, J'.base, J'.hok, rv, q⟩
  refine wpAny_call (codeAny_mono rc fun r s' hq => ?_)
  cases r with
  | error e => exact tk e s' (XE.of_call I1 (fun cls d H' h => h) hq)
  | ok fl =>
    cases fl with
    | ret u => exact I1.after hq
    | next => exact False.elim hq
    | brk => exact False.elim hq
    | cont => exact False.elim hq
/-- the def that calls what it got; TT: what it makes of the lambda's reading -/
def Gives3 (X : Cx) (Ng : List Str) (x : Str) (sg : Scope) (g : Addr) (cdg : Value) (bg : List Stmt) (a : Str) (q : Str) (TT : (XK → Hp → VK → Prop) → Addr → Addr → Hp → VK → Prop) : Prop :=
  ∀ (f c' : Addr) (s : Shared) (H : Hp) (Q : VK) (tl : XK → Hp → VK → Prop), Room 10 (X.A.deeper (envOfC x sg s.heap.objs.size g cdg)) →
    (∀ (W : WX) (pn : List (Addr × Obj)) (xe : Value → Shared → Prop) (p1 p2 : Pos), Takes ((cxOf C8.CX0 X.prog X.w X.K X.mg X.base Ng x sg g cdg X.A X.stack s H C8.E0).tr pn xe) W →
      PE ((cxOf C8.CX0 X.prog X.w X.K X.mg X.base Ng x sg g cdg X.A X.stack s H C8.E0).tr pn xe) (.Call (.Name a p1) [] [] p2) (fun σZ HZ Q => σZ[0]? = some (some (.ref f)) ∧ HZ c' = some (CodeO c' q) ∧ tl (fun cls d H => W cls d σZ H) HZ Q)) →
    TT tl f c' H Q →
    ∃ t, PSs (cxOf C8.CX0 X.prog X.w X.K X.mg X.base Ng x sg g cdg X.A X.stack s H C8.E0).nox bg t ∧ t { nx := fun _ H' => Q .non H', rt := Q } (L2.start Ng [.ref f]) H
def tLam3 (P : Addr) (q : Str) (TT : (XK → Hp → VK → Prop) → Addr → Addr → Hp → VK → Prop) (t : XK → TE) : TE := fun σ H Q => ∃ (ps : Array Value) (Kn : Addr → Prop), H P = some (.tbl ps) ∧ Told H Kn q ps ∧
  ∀ f c' H1, Made H P q Kn c' H1 → H1 c' = some (CodeO c' q) → TT (fun E H' Q' => t E σ H' Q') f c' H1 Q
end
section
variable {X : Cx}
/-- x(lambda: body) -/
theorem pe_lam3 {TT : (XK → Hp → VK → Prop) → Addr → Addr → Hp → VK → Prop} {x a : Str} {g c P : Addr} {k : Nat} {pg : Arguments} {bg : List Stmt} {sg : Scope} {dV kV doc pm cdv ct oc : Value} {an od : Option Addr} {osl : Array (Option Value)} {Ng : List Str}
    {params : Arguments} {body : Expr} {scope : Scope} {t : XK → TE} {p lpos pos : Pos} (hg : Gl X x) (hm : X.mg x = some (.ref g)) (hk : PySem.W.keepIn X.K (.ref g) = true)
    (lk : X.K.lookup g = some ⟨oc, od, .func (PySem.W.fnOf x x pg bg sg dV kV doc pm an cdv ct), osl⟩) (hcg : PySem.W.codeIn X.K cdv x = true) (hb : L2.Binds X.K (PySem.W.fnOf x x pg bg sg dV kV doc pm an cdv ct) [a] []) (Sg : FnScope Ng [a] sg) (hNg : Ng[0]? = some a) (hva : Vis sg a)
    (hG : Gives3 X Ng x sg g cdv bg a (X.env.qual ++ "<lambda>") TT)
    (TB : TabB X.base X.mg c P) (hcode : X.env.code = .ref c) (hr : Room (k + 2) X.A) (L : LamS X.env.scope scope) (hdef : defaultsOf params X.env = ([], []))
    (hbind : ∀ (q : Str) (cl : List (Str × Addr)) (pm cv ctv : Value), bindArgs (PySem.W.kla_fn "<lambda>" q params body scope cl pm cv ctv) ⟨[], []⟩ = pure [])
    (hbody : ∀ (A : Around) (outer : List Env) (s : Shared) (H : Hp) (E : XK) (f c' : Addr), Room k (A.deeper (lamEnv X scope s.heap.objs.size f c')) → PE (lamCx X A outer s H E scope f c') body (t E)) (hr1 : ∀ A, Room (k + 1) A → Room 10 A)
    (hdb : (x == ("__debug__" : Str)) = false := by decide) (hd : (a == ("__debug__" : Str)) = false := by decide) (hcd : (a == ("__classdict__" : Str)) = false := by decide) :
    PE X (.Call (.Name x p) [.Lambda params body scope lpos] [] pos) (tLam3 P (X.env.qual ++ "<lambda>") TT t) := by
  refine ⟨fun pins s σ H Q I h => ?_⟩
  obtain ⟨ps, Kn, hP, hT, h⟩ := h
  refine wpAny_Call_Name_kw (ld_glob I hg hm ?_ hdb)
  refine PySem.W.callWith_K (h₀ := X.base) I.ok.mod.kin hk ?_ (by rfl) (by rfl)
  show wpAny _ _ (spliced ((false, eval (.Lambda params body scope lpos) X.env) :: backTo pos (starEach [] X.env))) _ _ s
  refine Calls.spliced_cons (make3 I TB hcode hP hT hdef (L.has I.ok) fun f c' pm' ctv H1 s' I1 hM hco hf hfn hfr => ?_)
  refine Calls.spliced_nil ⟨I1.kIn, ?_⟩
  have rc : codeAny (model X.prog X.w) X.A (.call (.ref g) ⟨[.ref f], []⟩) (CR C8.CX0 X.stack X.prog X.w H1 s' Q C8.E0) s' := by
    refine run_ofS (N := Ng) (ps := [a]) (us := [.ref f]) (vs := [.ref f]) lk hcg Sg hr I1.env0 (hb s' [.ref f] I1.kIn rfl) (.cons rfl .nil) rfl fun hr' => ?_
    obtain ⟨t', ht', hq'⟩ := hG f c' s' H1 Q (fun E H' Q' => t E σ H' Q') (hr1 _ hr') (fun W pn xe p1 p2 tk => act3 (i := 0) I1 L hf hfn hfr (hbind _ _ _ _ _) tk hr' (fun A outer s H E hr2 => hbody A outer s H E f c' hr2) hNg hva hd hcd) (h f c' H1 hM hco)
    exact ⟨t', ht'.nox, hq'⟩
  refine wpAny_call (codeAny_mono rc fun r s2 hq => ?_)
  cases r with
  | error e => exact (show False from hq).elim
  | ok fl =>
    cases fl with
    | ret u => exact I1.after hq
    | next => exact False.elim hq
    | brk => exact False.elim hq
    | cont => exact False.elim hq
end
end QL
namespace Y
open PySem L2
open PySem.Spec PyProof.Rows
open Evl (Ex)
open LamX QL

/-! ### x(lambda: e): the caller waits as a slot of the callee, the lambda's body is read there -/
/-- the lambda's body, read in the slots of the caller that waits; it may change them -/
def dAct (f c : Addr) (q : Str) (σ : L2.St) (pv : List V) (d : DE) : DE := fun stc k x => ∃ st, at' stc 0 = .fr f c q σ pv st ∧
  d st (fun r st2 => match r with | .w w => k (.w w) (put stc 0 (.fr f c q σ pv st2)) | _ => False) (fun e st2 => x e (put stc 0 (.fr f c q σ pv st2)))
def lamEnds (f c : Addr) (q : Str) (σ : L2.St) (pv : List V) (k : R → S → Prop) : DEnds where
  rt := fun t st' => ∃ w st2, t.frz = some w ∧ at' st' 0 = .fr f c q σ pv st2 ∧ k (.w w) st2
  nx := fun st' => ∃ st2, at' st' 0 = .fr f c q σ pv st2 ∧ k (.w .non) st2
def dLam (B : DE → DS) (q : Str) (n : Nat) (d : DE) : DE := fun st k _ => ∀ f c σ pv, B (dAct f c q σ pv d) (lamEnds f c q σ pv k) (.fr f c q σ pv st :: uns n)
/-- what the layer makes of the lambda's reading -/
def TT3 (K : PySem.W.Frag) (Z : Zx) (Ng : List Str) (B : DE → DS) (q : Str) (tl : XK → Hp → VK → Prop) (f c : Addr) (H : Hp) (Q : VK) : Prop :=
  ∃ (σ : L2.St) (pv : List V) (d : DE), (tl = fun E H' Q' => tE K Z (fun cls dx _ H => E cls dx H) d σ H' Q') ∧ tS K Z E0s (B (dAct f c q σ pv d)) { nx := fun _ H' => Q .non H', rt := Q } (L2.start Ng [.ref f]) H
section
variable {K : PySem.W.Frag} {Z : Zx}
theorem permM {A B C : Fp} : (A ++ B ++ C).Perm (B ++ (A ++ C)) := by
  rw [← List.append_assoc]
  exact List.Perm.append_right _ List.perm_append_comm
theorem act_ok {W : XS} {f c : Addr} {q : Str} {σ : L2.St} {pv : List V} {d : DE} {σZ : L2.St} {HZ : Hp} {Q : VK} (h : tE K Z W (dAct f c q σ pv d) σZ HZ Q) :
    σZ[0]? = some (some (.ref f)) ∧ HZ c = some (CodeO c q) ∧ tE K Z (fun cls dx _ H => W cls dx σZ H) d σ HZ Q := by
  obtain ⟨H0, F, G, pvc, stc, k, kx, wd, ss, ⟨st, hat, hd⟩, hk, hx⟩ := h
  obtain ⟨G1, Ga, Gb, hs, hc, sf, rfl, back⟩ := ss.fr_at hat
  have wd' : Wd H0 F (G1 ++ (Ga ++ Gb)) HZ := wd.perm permM.symm
  refine ⟨hs, wd.ex _ _ hc, H0, addF F (Ga ++ Gb), G1, pv, st, _, _, wd'.toCall, sf, hd, fun H0' G' H' st' v r e w2 s2 rr kk => ?_, hx.tabs.add wd', fun H0' G' H' st' cls dx x e w2 s2 rx kk => ?_⟩
  · cases r with
    | pk _ => exact kk.elim
    | w w =>
      cases rr with
      | w rv => exact hk _ _ _ _ _ _ e ((wd'.ofCall w2).perm permM) (back H0' st' G' e s2) (.w rv) kk
  · exact hx _ _ _ _ _ _ _ e ((wd'.ofCall w2).perm permM) (back H0' st' G' e s2) rx kk
theorem made_ok {H0 F H : Hp} {G : Fp} {P c' : Addr} {q : Str} {H1 : Hp} (wd : Wd H0 F G H) (hF : F P = some (tabO q)) (m : Made H P q (fun c => H0 c = some (CodeO c q)) c' H1) : ∃ H0', Ex H0 H0' ∧ Wd H0' F G H1 ∧ H0' c' = some (CodeO c' q) := by
  rcases m with ⟨rfl, k, _⟩ | ⟨ps, more, hP, hc, rfl, ht, ha⟩
  · exact ⟨H0, Ex.refl _, wd, k⟩
  · have n0 : H0 c' = none := by
      cases z : H0 c' with
      | none => rfl
      | some u => rw [wd.ex _ _ z] at hc; cases hc
    have nF : F c' = none := wd.fnone hc
    have ne0 : ∀ a o, H0 a = some o → a ≠ P := fun a o h e => by have := wd.d0F a o h; rw [e, hF] at this; cases this
    have neC : ∀ a o, H a = some o → a ≠ c' := fun a o h e => by rw [e, hc] at h; cases h
    have cP : c' ≠ P := fun e => by rw [e, hF] at nF; cases nF
    refine ⟨upd H0 c' (CodeO c' q), .new n0, ⟨fun a o h => ?_, fun a o h n => ?_, fun p hp => ?_, wd.nd, fun p hp => ?_, wd.dF, fun a o h => ?_, fun a o t h n => ?_, wd.tn⟩, upd_same⟩
    · by_cases z : a = c'
      · subst z; rw [upd_same] at h ⊢; exact h
      · rw [upd_ne z] at h ⊢
        rw [upd_ne (ne0 a o h)]
        exact wd.ex a o h
    · have h1 := wd.fr a o h n
      rw [upd_ne (neC a o h1), upd_ne (fun e => by rw [e, hF] at h; cases h; cases n)]
      exact h1
    · have h1 := wd.ow p hp
      rw [upd_ne (neC _ _ h1), upd_ne (fun e => by have := wd.dF p hp; rw [e, hF] at this; cases this)]
      exact h1
    · rw [upd_ne (neC _ _ (wd.ow p hp))]; exact wd.d0 p hp
    · by_cases z : a = c'
      · subst z; exact nF
      · rw [upd_ne z] at h; exact wd.d0F a o h
    · by_cases z : a = P
      · subst z
        rw [hF] at h; cases h
        have n' : q = t := by cases n; rfl
        subst n'
        refine ⟨ps ++ more, by rw [upd_ne cP.symm, upd_same], ht, fun pos cv hcv => ?_⟩
        rcases ha pos cv hcv with h1 | h1
        · obtain ⟨ps', e1, _, e3⟩ := wd.tb a _ q hF rfl
          rw [hP] at e1; cases e1
          obtain ⟨c, e4, e5⟩ := e3 pos cv h1
          exact ⟨c, e4, by rw [upd_ne (fun e => by rw [e, n0] at e5; cases e5)]; exact e5⟩
        · exact ⟨c', h1, upd_same⟩
      · obtain ⟨ps', e1, e2, e3⟩ := wd.tb a o t h n
        exact TabQ.up (H := H) ⟨ps', e1, e2, e3⟩ (.new n0) fun o' h' => by rw [upd_ne (neC a o' h'), upd_ne z]; exact h'
theorem start_one (Ng : List Str) (n : Nat) (h : Ng.length = n + 1) (v : V) : L2.start Ng [v] = some v :: List.replicate n none := by
  unfold L2.start
  simp [h]
theorem lam_ok {E : XS} {B : DE → DS} {P : Addr} {q : Str} {n : Nat} {d : DE} {Ng : List Str} {σ : L2.St} {H : Hp} {Q : VK} (hZ : (P, q) ∈ Z.tabs) (hn : Ng.length = n + 1) (h : tE K Z E (dLam B q n d) σ H Q) :
    tLam3 P q (TT3 K Z Ng B q) (fun E => tE K Z (fun cls dx _ H => E cls dx H) d) σ H Q := by
  obtain ⟨H0, F, G, pv, st, k, kx, wd, ss, hd, hk, hx⟩ := h
  have hF := hx.tabs _ hZ
  obtain ⟨ps, hP, ht, ha⟩ := wd.tb P _ q hF rfl
  refine ⟨ps, fun c => H0 c = some (CodeO c q), hP, ⟨ht, fun pos cv hc => ?_⟩, fun f c' H1 hm hco => ?_⟩
  · obtain ⟨c, e1, e2⟩ := ha pos cv hc
    exact ⟨c, e1, wd.ex _ _ e2, e2⟩
  · obtain ⟨H0', e0, wd1, hc0⟩ := made_ok wd hF hm
    refine ⟨σ, pv, d, rfl, ?_⟩
    rw [start_one Ng n hn]
    refine ⟨H0', F, G, [], _, _, wd1, Sts.cast (.fr (G1 := G) (G2 := []) hc0 (ss.mono e0) (sts_uns 0 n)) (List.append_nil G), hd f c' σ pv, ⟨fun H2 G2 H2' σ' st' e w2 s2 kk => ?_, fun H2 Gv G2 H2' σ' st' v t e w2 rt s2 kk => ?_, fun _ _ _ _ _ _ _ _ kk => kk.elim, fun _ _ _ _ _ _ _ _ kk => kk.elim, hx.tabs, fun _ _ _ _ _ _ _ _ _ _ _ _ kk => kk.elim⟩⟩
    · obtain ⟨st2, hat, kk⟩ := kk
      obtain ⟨G1, Ga, Gb, _, _, sf, rfl, _⟩ := s2.fr_at hat
      exact hk _ _ _ _ _ _ (e0.trans e) (w2.sub (Gd := Ga ++ Gb) permM) sf (.w .non) kk
    · obtain ⟨w, st2, q1, hat, kk⟩ := kk
      obtain ⟨G1, Ga, Gb, _, _, sf, rfl, _⟩ := s2.fr_at hat
      obtain ⟨H3, e3, w4, r3⟩ := freeze w2 rt q1
      exact hk _ _ _ _ _ _ (e0.trans (e.trans e3)) (w4.sub (Gd := Ga ++ Gb) permM) (sf.mono e3) (.w r3) kk
end
section
variable {X : Cx} {Z : Zx} {E : XS}
/-- the def that calls what it got -/
theorem gives_of {Ng : List Str} {x : Str} {sg : Scope} {g : Addr} {cdg : Value} {bg : List Stmt} {a : Str} {q : Str} {B : DE → DS}
    (hB : ∀ (f c : Addr) (σ : L2.St) (pv : List V) (d : DE) (s : Shared) (H : Hp), Room 10 (X.A.deeper (envOfC x sg s.heap.objs.size g cdg)) →
      (∀ (W : XS) (pn : List (Addr × Obj)) (xe : Value → Shared → Prop) (p1 p2 : Pos), Takes ((cxOf C8.CX0 X.prog X.w X.K X.mg X.base Ng x sg g cdg X.A X.stack s H C8.E0).tr pn xe) (fun cls d σ H => W cls d σ H) →
        PD ((cxOf C8.CX0 X.prog X.w X.K X.mg X.base Ng x sg g cdg X.A X.stack s H C8.E0).tr pn xe) Z W (.Call (.Name a p1) [] [] p2) (dAct f c q σ pv d)) →
      PZs (cxOf C8.CX0 X.prog X.w X.K X.mg X.base Ng x sg g cdg X.A X.stack s H C8.E0).nox Z E0s bg (B (dAct f c q σ pv d))) : Gives3 X Ng x sg g cdg bg a q (TT3 X.K Z Ng B q) := by
  intro f c' s H Q tl hr hact htt
  obtain ⟨σ, pv, d, rfl, hS⟩ := htt
  exact ⟨_, hB f c' σ pv d s H hr fun W pn xe p1 p2 tk => pe_weak (hact _ pn xe p1 p2 tk) fun σZ HZ Q' z => act_ok z, hS⟩
/-- x(lambda: body) -/
theorem pd_lam {B : DE → DS} {x a : Str} {g c P : Addr} {k n : Nat} {pg : Arguments} {bg : List Stmt} {sg : Scope} {dV kV doc pm cdv ct oc : Value} {an od : Option Addr} {osl : Array (Option Value)} {Ng : List Str}
    {params : Arguments} {body : Expr} {scope : Scope} {d : DE} {q : Str} {p lpos pos : Pos} (hg : Gl X x) (hm : X.mg x = some (.ref g)) (hk : PySem.W.keepIn X.K (.ref g) = true)
    (lk : X.K.lookup g = some ⟨oc, od, .func (PySem.W.fnOf x x pg bg sg dV kV doc pm an cdv ct), osl⟩) (hcg : PySem.W.codeIn X.K cdv x = true) (hb : L2.Binds X.K (PySem.W.fnOf x x pg bg sg dV kV doc pm an cdv ct) [a] []) (Sg : FnScope Ng [a] sg) (hNg : Ng[0]? = some a) (hva : Vis sg a)
    (hq : X.env.qual ++ "<lambda>" = q) (hG : Gives3 X Ng x sg g cdv bg a q (TT3 X.K Z Ng B q))
    (TB : TabB X.base X.mg c P) (hcode : X.env.code = .ref c) (hr : Room (k + 2) X.A) (L : LamS X.env.scope scope) (hdef : defaultsOf params X.env = ([], []))
    (hbind : ∀ (q : Str) (cl : List (Str × Addr)) (pm cv ctv : Value), bindArgs (PySem.W.kla_fn "<lambda>" q params body scope cl pm cv ctv) ⟨[], []⟩ = pure [])
    (hZ : (P, q) ∈ Z.tabs) (hn : Ng.length = n + 1)
    (hbody : ∀ (A : Around) (outer : List Env) (s : Shared) (H : Hp) (E : XK) (f c' : Addr), Room k (A.deeper (lamEnv X scope s.heap.objs.size f c')) → PD (lamCx X A outer s H E scope f c') Z (fun cls dx _ H => E cls dx H) body d) (hr1 : ∀ A, Room (k + 1) A → Room 10 A)
    (hdb : (x == ("__debug__" : Str)) = false := by decide) (hd : (a == ("__debug__" : Str)) = false := by decide) (hcd : (a == ("__classdict__" : Str)) = false := by decide) :
    PD X Z E (.Call (.Name x p) [.Lambda params body scope lpos] [] pos) (dLam B q n d) := by
  subst hq
  exact pe_weak (pe_lam3 hg hm hk lk hcg hb Sg hNg hva hG TB hcode hr L hdef hbind (t := fun E => tE X.K Z (fun cls dx _ H => E cls dx H) d) hbody hr1 hdb hd hcd) fun σ H Q z => lam_ok hZ hn z
end
end Y
namespace Y
open PySem L2
open PySem.Spec PyProof.Rows
open Evl (Ex)
open LamX QL
open He (DefD FnW frG asD ga)

/-! ### a law's end, with tables of code objects -/
/-- the code object and the table of the def x -/
def tabAt (K : PySem.W.Frag) (x : Str) : Addr × Addr := (PySem.W.tabIn K x).getD (0, 0)
/-- ts: the defs that make lambdas, with the lambdas' names -/
def zxT (hs xs : List (Nat × Str)) (ts : List (Str × Str)) (K : PySem.W.Frag) : Zx := ⟨(zxL hs xs K).cls, (zxL hs xs K).has, ts.map fun p => ((tabAt K p.1).2, p.2), fun _ => 0⟩
def csT (ts : List (Str × Str)) (K : PySem.W.Frag) : List (Addr × Addr) := ts.map fun p => tabAt K p.1
section
variable {K : PySem.W.Frag}
theorem ClsOk.ts {hs xs : List (Nat × Str)} {ts : List (Str × Str)} (h : ClsOk K (zxL hs xs K)) : ClsOk K (zxT hs xs ts K) := ⟨h.1, h.2, h.3, h.4⟩
theorem ClsOk.z0 {Z : Zx} (h : ClsOk K Z) : ClsOk K Z.z0 := ⟨h.1, h.2, h.3, h.4⟩
theorem IsOk.ts {hs xs : List (Nat × Str)} {ts : List (Str × Str)} {C : Ty0} (h : IsOk K (zxL hs xs K) C) : IsOk K (zxT hs xs ts K) C := by
  cases C <;> exact h
theorem IsOk.z0 {Z : Zx} {C : Ty0} (h : IsOk K Z C) : IsOk K Z.z0 C := by
  cases C <;> exact h
/-- the checks -/
def tabB (ts : List (Str × Str)) (K : PySem.W.Frag) : Bool := (ts.all fun p => decide (PySem.W.tabIn K p.1 = some (tabAt K p.1)) && (K.lookup (tabAt K p.1).2).isNone) && decide ((ts.map fun p => (tabAt K p.1).2).Nodup)
structure TabOkK (ts : List (Str × Str)) (K : PySem.W.Frag) : Prop where
  at_ : ∀ p ∈ ts, PySem.W.tabIn K p.1 = some (tabAt K p.1)
  no : ∀ p ∈ ts, K.lookup (tabAt K p.1).2 = none
  nd : (ts.map fun p => (tabAt K p.1).2).Nodup
theorem tabB_ok {ts : List (Str × Str)} (h : tabB ts K = true) : TabOkK ts K := by
  obtain ⟨h1, h2⟩ := He.ba h
  have h3 : ∀ p ∈ ts, PySem.W.tabIn K p.1 = some (tabAt K p.1) ∧ K.lookup (tabAt K p.1).2 = none := fun p hp => by
    have := List.all_eq_true.mp h1 p hp
    obtain ⟨a, b⟩ := He.ba this
    exact ⟨of_decide_eq_true a, Option.isNone_iff_eq_none.mp b⟩
  exact ⟨fun p hp => (h3 p hp).1, fun p hp => (h3 p hp).2, of_decide_eq_true h2⟩
def CodeK (K : PySem.W.Frag) (f c : Addr) : Prop := ∀ oc od fd osl, K.lookup f = some ⟨oc, od, .func fd, osl⟩ → fd.code = .ref c
def codeB (x : Str) (K : PySem.W.Frag) : Bool := match K.lookup (ga K x) with
  | some ⟨_, _, .func fd, _⟩ => decide (fd.code = .ref (tabAt K x).1)
  | _ => true
theorem codeB_ok {x : Str} (h : codeB x K = true) : CodeK K (ga K x) (tabAt K x).1 := fun oc od fd osl e => by
  unfold codeB at h
  rw [e] at h
  exact of_decide_eq_true h
/-- THE RULE for a def whose code object is known -/
theorem fn_okC {P : Program} {w : World} {Z : Zx} {mg : Str → Option Value} {base : Heap} {x qual : Str} {params : Arguments} {body : List Stmt} {scope : Scope} {dvs : List V} {kws : List (Str × V)} {f cc : Addr} {fd : FuncData} {N ps : List Str} {k m : Nat} {c : Ct} {d : DS} (F : FunD K x qual params body scope dvs kws f fd) (hcc : CodeK K f cc) (S : FnScope N ps scope) (hm : Meets c ps.length m d) (hn : N.length = ps.length + m)
    (hb : ∀ (A : Around) (outer : List Env) (s : Shared) (H : Hp) (E : XK), Room k (A.deeper (envOfC qual scope s.heap.objs.size f (.ref cc))) →
      PZs (cxOf (L2.CX P w) P w K mg base N qual scope f (.ref cc) A outer s H E) Z (fun cls dx _ H => E cls dx H) body d) : FnOk P w K mg base (L2.CX P w) (k + 1) f fd ps (spOf K Z c) := by
  obtain ⟨oc, od, dV, kV, doc, pm, an, cdv, ct, osl, rfl, lk, hcd, _, _⟩ := F.ex
  have e : cdv = .ref cc := hcc _ _ _ _ lk
  subst e
  exact fn_of lk hcd S (fun vs H Q E h => (body_ok hm hn h).1) fun A outer s H vs Q E hr h => ⟨_, hb A outer s H E hr, (body_ok hm hn h).2⟩
theorem nd_inj {α β : Type} {f : α → β} : ∀ {l : List α}, (l.map f).Nodup → ∀ {a b : α}, a ∈ l → b ∈ l → f a = f b → a = b
  | [], _, _, _, h, _, _ => by cases h
  | x :: l, nd, a, b, ha, hb, e => by
    rw [List.map_cons] at nd
    obtain ⟨n1, n2⟩ := List.nodup_cons.mp nd
    rcases List.mem_cons.mp ha with h1 | h1
    · rcases List.mem_cons.mp hb with h2 | h2
      · rw [h1, h2]
      · exact absurd (show f x ∈ l.map f from List.mem_map.mpr ⟨b, h2, by rw [← e, h1]⟩) n1
    · rcases List.mem_cons.mp hb with h2 | h2
      · exact absurd (show f x ∈ l.map f from List.mem_map.mpr ⟨a, h1, by rw [e, h2]⟩) n1
      · exact nd_inj n2 h1 h2 e
theorem law_spT {ts : List (Str × Str)} {Z : Zx} (ht : Z.tabs = ts.map fun p => ((tabAt K p.1).2, p.2)) (tk : TabOkK ts K) {H : Hp} {a : Addr} {ns : List Int} (hT : ∀ p ∈ csT ts K, H p.2 = some (.tbl #[])) (hl : ns.length ≤ 63) (h : SqL K H a (ns.map V.int)) : spOf K Z c_law [.ref a] H (fun v _ => v = .bl true) fun _ _ _ => False := by
  have hT' : ∀ p ∈ ts, H (tabAt K p.1).2 = some (.tbl #[]) := fun p hp => hT (tabAt K p.1) (List.mem_map.mpr ⟨p, hp, rfl⟩)
  let F : Hp := fun b => (ts.find? fun p => (tabAt K p.1).2 == b).map fun p => tabO p.2
  have F_some : ∀ b o, F b = some o → ∃ p ∈ ts, (tabAt K p.1).2 = b ∧ o = tabO p.2 := fun b o e => by
    obtain ⟨p, h1, h2⟩ := Option.map_eq_some_iff.mp e
    exact ⟨p, List.mem_of_find?_eq_some h1, by have := List.find?_some h1; exact beq_iff_eq.mp this, h2.symm⟩
  have F_at : ∀ p ∈ ts, F (tabAt K p.1).2 = some (tabO p.2) := fun p hp => by
    cases q : ts.find? (fun r => (tabAt K r.1).2 == (tabAt K p.1).2) with
    | none =>
      have := List.find?_eq_none.mp q p hp
      simp at this
    | some r =>
      have h1 := List.mem_of_find?_eq_some q
      have h2 : (tabAt K r.1).2 = (tabAt K p.1).2 := by have := List.find?_some q; exact beq_iff_eq.mp this
      have h3 : r = p := nd_inj tk.nd h1 hp h2
      show (ts.find? _).map _ = _
      rw [q, h3]; rfl
  let H0 : Hp := fun b => if (F b).isSome then none else H b
  have H0_of : ∀ b o, H0 b = some o → F b = none ∧ H b = some o := fun b o e => by
    by_cases z : (F b).isSome = true
    · have : H0 b = none := if_pos z
      rw [this] at e; cases e
    · have q : H0 b = H b := if_neg z
      rw [q] at e
      exact ⟨by cases r : F b with
        | none => rfl
        | some u => rw [r] at z; exact absurd rfl z, e⟩
  have keep : ∀ b o, H b = some o → o ≠ .tbl #[] → H0 b = some o := fun b o e ne => by
    have z : ¬ (F b).isSome = true := fun z => by
      obtain ⟨u, hu⟩ := Option.isSome_iff_exists.mp z
      obtain ⟨p, hp, e1, _⟩ := F_some b u hu
      have := hT' p hp
      rw [e1, e] at this
      exact ne (Option.some.inj this)
    exact (if_neg z).trans e
  have hS : SqL K H0 a (ns.map V.int) := by
    rcases h with (h | ⟨o, h⟩) | h
    · exact .inl (.inl (keep _ _ h (by intro z; cases z)))
    · exact .inl (.inr ⟨o, keep _ _ h (by intro z; cases z)⟩)
    · exact .inr h
  refine ⟨H0, F, [], [.fz (.scr ns)], fun t _ => t = .fz (.bl true), fun _ _ => False, ⟨fun b o e => (H0_of b o e).2, fun b o e n => ?_, fun q hq => (nomatch hq), List.nodup_nil, fun q hq => (nomatch hq), fun q hq => (nomatch hq), fun b o e => (H0_of b o e).1, fun b o q e n => ?_, fun q hq => (nomatch hq)⟩,
    .cons (G1 := []) (.fz (.scr hS)) .nil, ⟨ns, rfl, hl, rfl⟩, fun H0' Gv Ga' H' v' t ts' ex wd rt _ ht => ?_, fun _ _ _ _ _ _ _ _ _ _ _ h => h.elim, fun p hp => ?_⟩
  · obtain ⟨p, _, _, rfl⟩ := F_some b o e
    cases n
  · obtain ⟨p, hp, e1, rfl⟩ := F_some b o e
    refine ⟨#[], by rw [← e1]; exact hT' p hp, True.intro, fun pos cv hc => ?_⟩
    have z : codeAmong pos [] = some cv := hc
    simp [codeAmong] at z
  · subst ht
    cases rt with | fz rt => cases rt; rfl
  · rw [ht] at hp
    obtain ⟨r, hr, rfl⟩ := List.mem_map.mp hp
    exact F_at r hr
end
theorem walk_ofYT {l : PySem.W.OpenLaw} {n k : Nat} {q : Program} {loose : List Str} {XP : (Str → Option Value) → Heap → Prop} {YP : World → Heap → Prop} {d : DefRec} {CX : World → CXT} {x : Str} (ts : List (Str × Str))
    (hn : l.most = some n) (hn2 : n ≤ sizeLine) (hdf : d.params.defaults = []) (hr : Room k callerA) (hrec : ∀ p ∈ ts, ((recsOf q).find? fun e => e.name == p.1).isSome = true)
    (F : ∀ (w : World) (mg : Str → Option Value) (fa : Addr) (h : Heap), YP w h → h.Ns mainGlobals mg → mg d.name = some (.ref fa) →
      ∃ (K : PySem.W.Frag) (fd : FuncData) (sp : Sp), K.In h ∧ TabOkK ts K ∧ (∀ (s : Shared) (u : Value), BindsTo s fd ⟨[u], []⟩ [(x, u)]) ∧
        (∀ (H : Hp) (a : Addr) (ns : List Int), ns.length ≤ n → (∀ p ∈ csT ts K, H p.2 = some (.tbl #[])) → SqL K H a (ns.map V.int) → sp [.ref a] H (fun v _ => v = .bl true) fun _ _ _ => False) ∧
        ∀ base : Heap, K.In base → base.Ns mainGlobals mg → (∀ p ∈ csT ts K, TabB base mg p.1 p.2) → FnOk l.prog w K mg base (CX w) k fa fd [x] sp)
    (hCX : ∀ (w : World) (H : Hp) (s : Shared) (e : Value) (s' : Shared), CX w [] H s (fun _ _ _ => False) e s' → False) :
    PySem.W.WalkO q loose XP YP l.row.toRowW d [] (fun f vs => PySem.call f vs) := by
  refine Att.attach_callB hn hdf fun w s₀ s₁ mg mb fa o pm cd doc a vs ns G Y ho hd hcd hmg hobj hints hlen hbits hg => ?_
  obtain ⟨K, fd, sp, KX, tk, hb, hsp, hF⟩ := F w mg fa _ Y G.T.g hmg
  have key : ∀ p ∈ csT ts K, PySem.W.CodeHd s₁.heap p.1 p.2 ∧ s₁.heap.get? p.2 = some (PySem.W.tabObj #[]) ∧ K.lookup p.2 = none := fun p hp => by
    obtain ⟨r, hr, rfl⟩ := List.mem_map.mp hp
    obtain ⟨dr, hdr⟩ := Option.isSome_iff_exists.mp (hrec r hr)
    obtain ⟨h1, h2⟩ := PySem.W.tab_of G.T KX hdr (tk.at_ r hr)
    exact ⟨h1, h2, tk.no r hr⟩
  exact law_callTs KX G.T.g G.T.b G.T.builtins G.T.nolimit hg (fun p hp => (key p hp).2.1) (fun p hp => (key p hp).2.2) (fun p hp => (key p hp).1) G.T.bmain hobj hints (Nat.le_trans hlen hn2) hr hF hb (fun H hH hS => hsp H a ns hlen hH hS) fun H e s' => hCX w H s₁ e s'

/-! ### the head's facts without the tables -/
def asT (ts : List (Str × Str)) (g : Addr → Option Obj) (n : Nat) : List Addr := (asD g n).filter fun a => !((ts.map fun p => (tabAt (frG g (asD g 2)) p.1).2).contains a)
def obsTG (ts : List (Str × Str)) (n : Nat) (fa : List Ck) (fn : List DefD) (g : Addr → Option Obj) : AlY := obsY fa fn (frG g (asT ts g n))
def hookT (ts : List (Str × Str)) (n : Nat) (fa : List Ck) (fn : List DefD) : PySem.W.Hook where
  α := AlY
  obs := fun s => obsTG ts n fa fn s.heap.get?
  val := fun _ => valY fn
  says := fun _ h => ∃ K : PySem.W.Frag, K.In h ∧ SaysY fa fn K
  of := fun _ _ e => ⟨_, He.frG_in, e⟩
  keeps := fun _ _ _ ⟨K, hK, c⟩ k => ⟨K, PySem.W.Frag.In.keeps hK k, c⟩
theorem obsTG_eq {ts : List (Str × Str)} {n : Nat} {fa : List Ck} {fn : List DefD} {g : Addr → Option Obj} {s : Shared} (h : ∀ a, g a = s.heap.get? a) : obsTG ts n fa fn g = (hookT ts n fa fn).obs s := by
  have e : g = s.heap.get? := funext h
  rw [e] <;> rfl
theorem tab_in {hs xs : List (Nat × Str)} {ts : List (Str × Str)} {K : PySem.W.Frag} {p : Str × Str} (h : p ∈ ts) : ((tabAt K p.1).2, p.2) ∈ (zxT hs xs ts K).tabs := List.mem_map.mpr ⟨p, h, rfl⟩
theorem cs_in {ts : List (Str × Str)} {K : PySem.W.Frag} {base : Heap} {mg : Str → Option Value} (h : ∀ p ∈ csT ts K, TabB base mg p.1 p.2) {p : Str × Str} (hp : p ∈ ts) : TabB base mg (tabAt K p.1).1 (tabAt K p.1).2 := h _ (List.mem_map.mpr ⟨p, hp, rfl⟩)
section
variable {X : Cx} {Z : Zx} {E : XS}
/-- x(lambda: body), the def x by its record -/
theorem pd_lamF {B : DE → DS} {x a : Str} {g c P : Addr} {k n : Nat} {pg : Arguments} {bg : List Stmt} {sg : Scope} {fd : FuncData} {Ng : List Str}
    {params : Arguments} {body : Expr} {scope : Scope} {d : DE} {q : Str} {p lpos pos : Pos} (hg : Gl X x) (hm : X.mg x = some (.ref g)) (F : FunD X.K x x pg bg sg [] [] g fd) (hb : L2.Binds X.K fd [a] []) (Sg : FnScope Ng [a] sg) (hNg : Ng[0]? = some a) (hva : Vis sg a)
    (hq : X.env.qual ++ "<lambda>" = q) (hG : ∀ cdv, Gives3 X Ng x sg g cdv bg a q (TT3 X.K Z Ng B q))
    (TB : TabB X.base X.mg c P) (hcode : X.env.code = .ref c) (hr : Room (k + 2) X.A) (L : LamS X.env.scope scope) (hdef : defaultsOf params X.env = ([], []))
    (hbind : ∀ (q : Str) (cl : List (Str × Addr)) (pm cv ctv : Value), bindArgs (PySem.W.kla_fn "<lambda>" q params body scope cl pm cv ctv) ⟨[], []⟩ = pure [])
    (hZ : (P, q) ∈ Z.tabs) (hn : Ng.length = n + 1) (hk9 : 9 ≤ k)
    (hbody : ∀ (A : Around) (outer : List Env) (s : Shared) (H : Hp) (E : XK) (f c' : Addr), Room k (A.deeper (lamEnv X scope s.heap.objs.size f c')) → PD (lamCx X A outer s H E scope f c') Z (fun cls dx _ H => E cls dx H) body d)
    (hdb : (x == ("__debug__" : Str)) = false := by decide) (hd : (a == ("__debug__" : Str)) = false := by decide) (hcd : (a == ("__classdict__" : Str)) = false := by decide) :
    PD X Z E (.Call (.Name x p) [.Lambda params body scope lpos] [] pos) (dLam B q n d) := by
  obtain ⟨oc, od, dV, kV, doc, pm, an, cdv, ct, osl, rfl, lk, hcd', _, _⟩ := F.ex
  exact pd_lam hg hm F.kp lk hcd' hb Sg hNg hva hq (hG cdv) TB hcode hr L hdef hbind hZ hn hbody (fun A h => h.mono (by omega)) hdb hd hcd
end
end Y
/-! ## held -/
namespace Y
open PySem L2
open PySem.Spec PyProof.Rows
def top (i : Nat) : Stmt := PySem.Challenge.pw_yarnback_k08_sheets_refused.main.body.getD i (.Pass ⟨0, 0, 0, 0⟩)
abbrev s_Twice___init__ : Stmt := inClass (top 2) 0
abbrev N_Twice___init__ : List Str := ["self", "name"]
theorem sc_Twice___init__ : FnScope N_Twice___init__ ["self", "name"] (defScope s_Twice___init__) := ⟨rfl, rfl, rfl, by decide +kernel, rfl, by decide +kernel, by decide +kernel⟩
abbrev s_NoHome___init__ : Stmt := inClass (top 3) 0
abbrev N_NoHome___init__ : List Str := ["self", "name"]
theorem sc_NoHome___init__ : FnScope N_NoHome___init__ ["self", "name"] (defScope s_NoHome___init__) := ⟨rfl, rfl, rfl, by decide +kernel, rfl, by decide +kernel, by decide +kernel⟩
abbrev s_NoPiece___init__ : Stmt := inClass (top 4) 0
abbrev N_NoPiece___init__ : List Str := ["self", "name"]
theorem sc_NoPiece___init__ : FnScope N_NoPiece___init__ ["self", "name"] (defScope s_NoPiece___init__) := ⟨rfl, rfl, rfl, by decide +kernel, rfl, by decide +kernel, by decide +kernel⟩
abbrev s_Span___init__ : Stmt := inClass (top 6) 0
abbrev N_Span___init__ : List Str := ["self", "least", "most"]
theorem sc_Span___init__ : FnScope N_Span___init__ ["self", "least", "most"] (defScope s_Span___init__) := ⟨rfl, rfl, rfl, by decide +kernel, rfl, by decide +kernel, by decide +kernel⟩
abbrev s_Span___eq__ : Stmt := inClass (top 6) 1
abbrev N_Span___eq__ : List Str := ["self", "other"]
theorem sc_Span___eq__ : FnScope N_Span___eq__ ["self", "other"] (defScope s_Span___eq__) := ⟨rfl, rfl, rfl, by decide +kernel, rfl, by decide +kernel, by decide +kernel⟩
abbrev s_Span___len__ : Stmt := inClass (top 6) 2
abbrev N_Span___len__ : List Str := ["self"]
theorem sc_Span___len__ : FnScope N_Span___len__ ["self"] (defScope s_Span___len__) := ⟨rfl, rfl, rfl, by decide +kernel, rfl, by decide +kernel, by decide +kernel⟩
abbrev s_Span___str__ : Stmt := inClass (top 6) 3
abbrev N_Span___str__ : List Str := ["self"]
theorem sc_Span___str__ : FnScope N_Span___str__ ["self"] (defScope s_Span___str__) := ⟨rfl, rfl, rfl, by decide +kernel, rfl, by decide +kernel, by decide +kernel⟩
abbrev s_Span___repr__ : Stmt := inClass (top 6) 4
abbrev N_Span___repr__ : List Str := ["self"]
theorem sc_Span___repr__ : FnScope N_Span___repr__ ["self"] (defScope s_Span___repr__) := ⟨rfl, rfl, rfl, by decide +kernel, rfl, by decide +kernel, by decide +kernel⟩
abbrev s_Span_plus : Stmt := inClass (top 6) 6
abbrev N_Span_plus : List Str := ["self", "other"]
theorem sc_Span_plus : FnScope N_Span_plus ["self", "other"] (defScope s_Span_plus) := ⟨rfl, rfl, rfl, by decide +kernel, rfl, by decide +kernel, by decide +kernel⟩
abbrev s_Sheet_homes : Stmt := inClass (top 8) 2
abbrev N_Sheet_homes : List Str := ["self", "give"]
theorem sc_Sheet_homes : FnScope N_Sheet_homes ["self"] (defScope s_Sheet_homes) := ⟨rfl, rfl, rfl, by decide +kernel, rfl, by decide +kernel, by decide +kernel⟩
abbrev s_Sheet_look_at : Stmt := inClass (top 8) 1
abbrev N_Sheet_look_at : List Str := ["self", "makers", "homes", "at", "maker"]
theorem sc_Sheet_look_at : FnScope N_Sheet_look_at ["self", "makers"] (defScope s_Sheet_look_at) := ⟨rfl, rfl, rfl, by decide +kernel, rfl, by decide +kernel, by decide +kernel⟩
abbrev s_Sheet___init__ : Stmt := inClass (top 8) 0
abbrev N_Sheet___init__ : List Str := ["self", "gives", "pieces", "name", "yarn", "makers", "give"]
theorem sc_Sheet___init__ : FnScope N_Sheet___init__ ["self", "gives", "pieces"] (defScope s_Sheet___init__) := ⟨rfl, rfl, rfl, by decide +kernel, rfl, by decide +kernel, by decide +kernel⟩
abbrev s_Sheet_pieces : Stmt := inClass (top 8) 3
abbrev N_Sheet_pieces : List Str := ["self"]
theorem sc_Sheet_pieces : FnScope N_Sheet_pieces ["self"] (defScope s_Sheet_pieces) := ⟨rfl, rfl, rfl, by decide +kernel, rfl, by decide +kernel, by decide +kernel⟩
abbrev s_Sheet_given : Stmt := inClass (top 8) 4
abbrev N_Sheet_given : List Str := ["self", "home", "found", "give"]
theorem sc_Sheet_given : FnScope N_Sheet_given ["self", "home"] (defScope s_Sheet_given) := ⟨rfl, rfl, rfl, by decide +kernel, rfl, by decide +kernel, by decide +kernel⟩
abbrev s_Sheet_got : Stmt := inClass (top 8) 5
abbrev N_Sheet_got : List Str := ["self", "home", "found", "give"]
theorem sc_Sheet_got : FnScope N_Sheet_got ["self", "home"] (defScope s_Sheet_got) := ⟨rfl, rfl, rfl, by decide +kernel, rfl, by decide +kernel, by decide +kernel⟩
abbrev s_Sheet_waste : Stmt := inClass (top 8) 6
abbrev N_Sheet_waste : List Str := ["self", "home", "give"]
theorem sc_Sheet_waste : FnScope N_Sheet_waste ["self", "home"] (defScope s_Sheet_waste) := ⟨rfl, rfl, rfl, by decide +kernel, rfl, by decide +kernel, by decide +kernel⟩
abbrev s_Sheet_row_of : Stmt := inClass (top 8) 7
abbrev N_Sheet_row_of : List Str := ["self", "piece"]
theorem sc_Sheet_row_of : FnScope N_Sheet_row_of ["self", "piece"] (defScope s_Sheet_row_of) := ⟨rfl, rfl, rfl, by decide +kernel, rfl, by decide +kernel, by decide +kernel⟩
abbrev s_Sheet_yarn : Stmt := inClass (top 8) 8
abbrev N_Sheet_yarn : List Str := ["self", "piece"]
theorem sc_Sheet_yarn : FnScope N_Sheet_yarn ["self", "piece"] (defScope s_Sheet_yarn) := ⟨rfl, rfl, rfl, by decide +kernel, rfl, by decide +kernel, by decide +kernel⟩
abbrev s_Sheet_makers : Stmt := inClass (top 8) 9
abbrev N_Sheet_makers : List Str := ["self", "piece"]
theorem sc_Sheet_makers : FnScope N_Sheet_makers ["self", "piece"] (defScope s_Sheet_makers) := ⟨rfl, rfl, rfl, by decide +kernel, rfl, by decide +kernel, by decide +kernel⟩
abbrev s_Sheet_made_by : Stmt := inClass (top 8) 10
abbrev N_Sheet_made_by : List Str := ["self", "home", "piece"]
theorem sc_Sheet_made_by : FnScope N_Sheet_made_by ["self", "home"] (defScope s_Sheet_made_by) := ⟨rfl, rfl, rfl, by decide +kernel, rfl, by decide +kernel, by decide +kernel⟩
abbrev s__law_pen : Stmt := top 10
abbrev N__law_pen : List Str := ["script", "cell"]
theorem sc__law_pen : FnScope N__law_pen ["script"] (defScope s__law_pen) := ⟨rfl, rfl, rfl, by decide +kernel, rfl, by decide +kernel, by decide +kernel⟩
abbrev s__law_draw : Stmt := top 11
abbrev N__law_draw : List Str := ["pen", "many", "digit", "at", "cell", "number", "again"]
theorem sc__law_draw : FnScope N__law_draw ["pen", "many"] (defScope s__law_draw) := ⟨rfl, rfl, rfl, by decide +kernel, rfl, by decide +kernel, by decide +kernel⟩
abbrev s__law_names : Stmt := top 12
abbrev N__law_names : List Str := ["pen", "many", "letters", "k", "word", "at", "first", "by", "lot", "found", "tail"]
theorem sc__law_names : FnScope N__law_names ["pen", "many"] (defScope s__law_names) := ⟨rfl, rfl, rfl, by decide +kernel, rfl, by decide +kernel, by decide +kernel⟩
abbrev s__law_ends : Stmt := top 13
abbrev N__law_ends : List Str := ["pen", "wide", "least"]
theorem sc__law_ends : FnScope N__law_ends ["pen", "wide"] (defScope s__law_ends) := ⟨rfl, rfl, rfl, by decide +kernel, rfl, by decide +kernel, by decide +kernel⟩
abbrev s__law_gives : Stmt := top 14
abbrev N__law_gives : List Str := ["pen", "names", "wide", "found", "name", "again", "give"]
theorem sc__law_gives : FnScope N__law_gives ["pen", "names", "wide"] (defScope s__law_gives) := ⟨rfl, rfl, rfl, by decide +kernel, rfl, by decide +kernel, by decide +kernel⟩
abbrev s__law_makers : Stmt := top 15
abbrev N__law_makers : List Str := ["pen", "names", "left", "found", "again"]
theorem sc__law_makers : FnScope N__law_makers ["pen", "names"] (defScope s__law_makers) := ⟨rfl, rfl, rfl, by decide +kernel, rfl, by decide +kernel, by decide +kernel⟩
abbrev s__law_pieces : Stmt := top 16
abbrev N__law_pieces : List Str := ["pen", "names", "many", "wide", "name"]
theorem sc__law_pieces : FnScope N__law_pieces ["pen", "names", "many", "wide"] (defScope s__law_pieces) := ⟨rfl, rfl, rfl, by decide +kernel, rfl, by decide +kernel, by decide +kernel⟩
abbrev s__law_sheet : Stmt := top 17
abbrev N__law_sheet : List Str := ["gives", "pieces", "told", "home", "ends", "waste", "name", "makers"]
theorem sc__law_sheet : FnScope N__law_sheet ["gives", "pieces"] (defScope s__law_sheet) := ⟨rfl, rfl, rfl, by decide +kernel, rfl, by decide +kernel, by decide +kernel⟩
abbrev s__law_spoilt : Stmt := top 18
abbrev N__law_spoilt : List Str := ["pen", "pieces", "names", "at", "name", "ends", "makers", "spot", "other", "way", "row"]
theorem sc__law_spoilt : FnScope N__law_spoilt ["pen", "pieces", "names"] (defScope s__law_spoilt) := ⟨rfl, rfl, rfl, by decide +kernel, rfl, by decide +kernel, by decide +kernel⟩
abbrev s__law_due : Stmt := top 19
abbrev N__law_due : List Str := ["names", "pieces", "seen", "name", "ends", "makers", "at"]
theorem sc__law_due : FnScope N__law_due ["names", "pieces"] (defScope s__law_due) := ⟨rfl, rfl, rfl, by decide +kernel, rfl, by decide +kernel, by decide +kernel⟩
abbrev s__law_told : Stmt := top 20
abbrev N__law_told : List Str := ["asked", "wrong", "e", "some", "kinds"]
theorem sc__law_told : FnScope N__law_told ["asked"] (defScope s__law_told) := ⟨rfl, rfl, rfl, by decide +kernel, rfl, by decide +kernel, by decide +kernel⟩
abbrev s_law : Stmt := top 21
abbrev N_law : List Str := ["script", "pen", "turn", "names", "right", "again", "kept", "asks", "gives", "name", "pieces", "sheet"]
theorem sc_law : FnScope N_law ["script"] (defScope s_law) := ⟨rfl, rfl, rfl, by decide +kernel, rfl, by decide +kernel, by decide +kernel⟩
abbrev hsC : List (Nat × Str) := [(0, "Span"), (4, "Sheet")]
abbrev xsC : List (Nat × Str) := [(11, "Twice"), (18, "NoHome"), (19, "NoPiece")]
abbrev tsC : List (Str × Str) := [("law", "law.<locals>.<lambda>")]
abbrev zx (K : PySem.W.Frag) : Zx := zxT hsC xsC tsC K
abbrev D_Twice___init__ : He.DefD := ⟨("Twice", some "__init__"), "__init__", "Twice.__init__", defArgs s_Twice___init__, defBody s_Twice___init__, defScope s_Twice___init__, [], []⟩
abbrev D_NoHome___init__ : He.DefD := ⟨("NoHome", some "__init__"), "__init__", "NoHome.__init__", defArgs s_NoHome___init__, defBody s_NoHome___init__, defScope s_NoHome___init__, [], []⟩
abbrev D_NoPiece___init__ : He.DefD := ⟨("NoPiece", some "__init__"), "__init__", "NoPiece.__init__", defArgs s_NoPiece___init__, defBody s_NoPiece___init__, defScope s_NoPiece___init__, [], []⟩
abbrev D_Span___init__ : He.DefD := ⟨("Span", some "__init__"), "__init__", "Span.__init__", defArgs s_Span___init__, defBody s_Span___init__, defScope s_Span___init__, [.non], []⟩
abbrev D_Span___eq__ : He.DefD := ⟨("Span", some "__eq__"), "__eq__", "Span.__eq__", defArgs s_Span___eq__, defBody s_Span___eq__, defScope s_Span___eq__, [], []⟩
abbrev D_Span___len__ : He.DefD := ⟨("Span", some "__len__"), "__len__", "Span.__len__", defArgs s_Span___len__, defBody s_Span___len__, defScope s_Span___len__, [], []⟩
abbrev D_Span___str__ : He.DefD := ⟨("Span", some "__str__"), "__str__", "Span.__str__", defArgs s_Span___str__, defBody s_Span___str__, defScope s_Span___str__, [], []⟩
abbrev D_Span___repr__ : He.DefD := ⟨("Span", some "__repr__"), "__repr__", "Span.__repr__", defArgs s_Span___repr__, defBody s_Span___repr__, defScope s_Span___repr__, [], []⟩
abbrev D_Span_plus : He.DefD := ⟨("Span", some "plus"), "plus", "Span.plus", defArgs s_Span_plus, defBody s_Span_plus, defScope s_Span_plus, [], []⟩
abbrev D_Sheet_homes : He.DefD := ⟨("Sheet", some "homes"), "homes", "Sheet.homes", defArgs s_Sheet_homes, defBody s_Sheet_homes, defScope s_Sheet_homes, [], []⟩
abbrev D_Sheet_look_at : He.DefD := ⟨("Sheet", some "look_at"), "look_at", "Sheet.look_at", defArgs s_Sheet_look_at, defBody s_Sheet_look_at, defScope s_Sheet_look_at, [], []⟩
abbrev D_Sheet___init__ : He.DefD := ⟨("Sheet", some "__init__"), "__init__", "Sheet.__init__", defArgs s_Sheet___init__, defBody s_Sheet___init__, defScope s_Sheet___init__, [.non, .non], []⟩
abbrev D_Sheet_pieces : He.DefD := ⟨("Sheet", some "pieces"), "pieces", "Sheet.pieces", defArgs s_Sheet_pieces, defBody s_Sheet_pieces, defScope s_Sheet_pieces, [], []⟩
abbrev D_Sheet_given : He.DefD := ⟨("Sheet", some "given"), "given", "Sheet.given", defArgs s_Sheet_given, defBody s_Sheet_given, defScope s_Sheet_given, [], []⟩
abbrev D_Sheet_got : He.DefD := ⟨("Sheet", some "got"), "got", "Sheet.got", defArgs s_Sheet_got, defBody s_Sheet_got, defScope s_Sheet_got, [], []⟩
abbrev D_Sheet_waste : He.DefD := ⟨("Sheet", some "waste"), "waste", "Sheet.waste", defArgs s_Sheet_waste, defBody s_Sheet_waste, defScope s_Sheet_waste, [], []⟩
abbrev D_Sheet_row_of : He.DefD := ⟨("Sheet", some "row_of"), "row_of", "Sheet.row_of", defArgs s_Sheet_row_of, defBody s_Sheet_row_of, defScope s_Sheet_row_of, [], []⟩
abbrev D_Sheet_yarn : He.DefD := ⟨("Sheet", some "yarn"), "yarn", "Sheet.yarn", defArgs s_Sheet_yarn, defBody s_Sheet_yarn, defScope s_Sheet_yarn, [], []⟩
abbrev D_Sheet_makers : He.DefD := ⟨("Sheet", some "makers"), "makers", "Sheet.makers", defArgs s_Sheet_makers, defBody s_Sheet_makers, defScope s_Sheet_makers, [], []⟩
abbrev D_Sheet_made_by : He.DefD := ⟨("Sheet", some "made_by"), "made_by", "Sheet.made_by", defArgs s_Sheet_made_by, defBody s_Sheet_made_by, defScope s_Sheet_made_by, [], []⟩
abbrev D__law_pen : He.DefD := ⟨("_law_pen", none), "_law_pen", "_law_pen", defArgs s__law_pen, defBody s__law_pen, defScope s__law_pen, [], []⟩
abbrev D__law_draw : He.DefD := ⟨("_law_draw", none), "_law_draw", "_law_draw", defArgs s__law_draw, defBody s__law_draw, defScope s__law_draw, [], []⟩
abbrev D__law_names : He.DefD := ⟨("_law_names", none), "_law_names", "_law_names", defArgs s__law_names, defBody s__law_names, defScope s__law_names, [], []⟩
abbrev D__law_ends : He.DefD := ⟨("_law_ends", none), "_law_ends", "_law_ends", defArgs s__law_ends, defBody s__law_ends, defScope s__law_ends, [], []⟩
abbrev D__law_gives : He.DefD := ⟨("_law_gives", none), "_law_gives", "_law_gives", defArgs s__law_gives, defBody s__law_gives, defScope s__law_gives, [], []⟩
abbrev D__law_makers : He.DefD := ⟨("_law_makers", none), "_law_makers", "_law_makers", defArgs s__law_makers, defBody s__law_makers, defScope s__law_makers, [], []⟩
abbrev D__law_pieces : He.DefD := ⟨("_law_pieces", none), "_law_pieces", "_law_pieces", defArgs s__law_pieces, defBody s__law_pieces, defScope s__law_pieces, [], []⟩
abbrev D__law_sheet : He.DefD := ⟨("_law_sheet", none), "_law_sheet", "_law_sheet", defArgs s__law_sheet, defBody s__law_sheet, defScope s__law_sheet, [], []⟩
abbrev D__law_spoilt : He.DefD := ⟨("_law_spoilt", none), "_law_spoilt", "_law_spoilt", defArgs s__law_spoilt, defBody s__law_spoilt, defScope s__law_spoilt, [], []⟩
abbrev D__law_due : He.DefD := ⟨("_law_due", none), "_law_due", "_law_due", defArgs s__law_due, defBody s__law_due, defScope s__law_due, [], []⟩
abbrev D__law_told : He.DefD := ⟨("_law_told", none), "_law_told", "_law_told", defArgs s__law_told, defBody s__law_told, defScope s__law_told, [], []⟩
abbrev D_law : He.DefD := ⟨("law", none), "law", "law", defArgs s_law, defBody s_law, defScope s_law, [], []⟩
abbrev FA : List Ck := [(He.Fa.glo "_law_pen").ok, (He.Fa.glo "_law_draw").ok, (He.Fa.glo "_law_names").ok, (He.Fa.glo "_law_ends").ok, (He.Fa.glo "_law_gives").ok, (He.Fa.glo "_law_makers").ok, (He.Fa.glo "_law_pieces").ok, (He.Fa.glo "_law_sheet").ok, (He.Fa.glo "_law_spoilt").ok, (He.Fa.glo "_law_due").ok, (He.Fa.glo "_law_told").ok, (He.Fa.glo "law").ok, (He.Fa.glo "Span").ok, (He.Fa.glo "Sheet").ok, (He.Fa.glo "Twice").ok, (He.Fa.glo "NoHome").ok, (He.Fa.glo "NoPiece").ok, (He.Fa.free "KeyError").ok, (He.Fa.free "ValueError").ok, (He.Fa.free "abs").ok, (He.Fa.free "enumerate").ok, (He.Fa.free "isinstance").ok, (He.Fa.free "len").ok, (He.Fa.free "list").ok, (He.Fa.free "min").ok, (He.Fa.free "range").ok, (He.Fa.free "set").ok, (He.Fa.free "sorted").ok, (He.Fa.free "sum").ok, (He.Fa.free "tuple").ok, clsB hsC, tabB tsC, codeB "law", (He.Fa.cls "Span").ok, (He.Fa.cls "Sheet").ok, (He.Fa.noat "Sheet" "gives").ok, (He.Fa.noat "Sheet" "told").ok, (He.Fa.noat "Span" "least").ok, (He.Fa.noat "Span" "most").ok, (He.Fa.meth "Sheet" "given").ok, (He.Fa.meth "Sheet" "got").ok, (He.Fa.meth "Sheet" "homes").ok, (He.Fa.meth "Sheet" "look_at").ok, (He.Fa.meth "Sheet" "made_by").ok, (He.Fa.meth "Sheet" "makers").ok, (He.Fa.meth "Sheet" "pieces").ok, (He.Fa.meth "Sheet" "row_of").ok, (He.Fa.meth "Sheet" "waste").ok, (He.Fa.meth "Sheet" "yarn").ok, (He.Fa.meth "Span" "plus").ok, (He.Fa.mkr "Sheet").ok, (He.Fa.mkr "Span").ok, isB hsC (.i 0), (He.Fa.meth "Span" "__eq__").ok, neB "Span", (fun K => decide (PySem.W.findIn K (.ref (He.ga K "NoHome")) "__init__" = some (some (.ref (He.ma K (He.ga K "NoHome") "__init__"))))), (fun K => decide (PySem.W.findIn K (.ref (He.ga K "NoPiece")) "__init__" = some (some (.ref (He.ma K (He.ga K "NoPiece") "__init__"))))), (fun K => decide (PySem.W.findIn K (.ref (He.ga K "Twice")) "__init__" = some (some (.ref (He.ma K (He.ga K "Twice") "__init__"))))), (oexB "NoHome" bm_KeyError "LookupError.__new__"), (oexB "NoPiece" bm_KeyError "LookupError.__new__"), (oexB "Twice" bm_ValueError "ValueError.__new__"), (fun K => decide (PySem.W.typeIn K (.ref (He.ma K (He.ga K "NoHome") "__init__")) = some (.type "function"))), (fun K => decide (PySem.W.typeIn K (.ref (He.ma K (He.ga K "NoPiece") "__init__")) = some (.type "function"))), (fun K => decide (PySem.W.typeIn K (.ref (He.ma K (He.ga K "Twice") "__init__")) = some (.type "function"))), (fun K => xcB K (He.ga K "NoHome")), (fun K => xcB K (He.ga K "NoPiece")), (fun K => xcB K (He.ga K "Twice")), (fun K => decide (PySem.W.kitOne K (.ref (He.ga K "NoHome")) (.type "KeyError") = some true)), (fun K => decide (PySem.W.kitOne K (.ref (He.ga K "NoHome")) (.ref (He.ga K "NoHome")) = some true)), (fun K => decide (PySem.W.kitOne K (.ref (He.ga K "NoHome")) (.ref (He.ga K "NoPiece")) = some false)), (fun K => decide (PySem.W.kitOne K (.ref (He.ga K "NoHome")) (.ref (He.ga K "Twice")) = some false)), (fun K => decide (PySem.W.kitOne K (.ref (He.ga K "NoHome")) (.type "ValueError") = some false)), (fun K => decide (PySem.W.kitOne K (.ref (He.ga K "NoPiece")) (.type "KeyError") = some true)), (fun K => decide (PySem.W.kitOne K (.ref (He.ga K "NoPiece")) (.ref (He.ga K "NoHome")) = some false)), (fun K => decide (PySem.W.kitOne K (.ref (He.ga K "NoPiece")) (.ref (He.ga K "NoPiece")) = some true)), (fun K => decide (PySem.W.kitOne K (.ref (He.ga K "NoPiece")) (.ref (He.ga K "Twice")) = some false)), (fun K => decide (PySem.W.kitOne K (.ref (He.ga K "NoPiece")) (.type "ValueError") = some false)), (fun K => decide (PySem.W.kitOne K (.ref (He.ga K "Twice")) (.type "KeyError") = some false)), (fun K => decide (PySem.W.kitOne K (.ref (He.ga K "Twice")) (.ref (He.ga K "NoHome")) = some false)), (fun K => decide (PySem.W.kitOne K (.ref (He.ga K "Twice")) (.ref (He.ga K "NoPiece")) = some false)), (fun K => decide (PySem.W.kitOne K (.ref (He.ga K "Twice")) (.ref (He.ga K "Twice")) = some true)), (fun K => decide (PySem.W.kitOne K (.ref (He.ga K "Twice")) (.type "ValueError") = some true)), (fun K => decide (PySem.W.exmAny K (.ref (He.ga K "NoHome")) [(.ref (He.ga K "Twice")), (.ref (He.ga K "NoHome")), (.ref (He.ga K "NoPiece"))] = some true)), (fun K => decide (PySem.W.exmAny K (.ref (He.ga K "NoPiece")) [(.ref (He.ga K "Twice")), (.ref (He.ga K "NoHome")), (.ref (He.ga K "NoPiece"))] = some true)), (fun K => decide (PySem.W.exmAny K (.ref (He.ga K "Twice")) [(.ref (He.ga K "Twice")), (.ref (He.ga K "NoHome")), (.ref (He.ga K "NoPiece"))] = some true)), (fun K => decide (PySem.W.findIn K (.ref (He.ga K "NoHome")) "name" = some none)), (fun K => decide (PySem.W.findIn K (.ref (He.ga K "NoPiece")) "name" = some none)), (fun K => decide (PySem.W.findIn K (.ref (He.ga K "Twice")) "name" = some none))]
abbrev FN : List He.DefD := [D_Twice___init__, D_NoHome___init__, D_NoPiece___init__, D_Span___init__, D_Span___eq__, D_Span___len__, D_Span___str__, D_Span___repr__, D_Span_plus, D_Sheet_homes, D_Sheet_look_at, D_Sheet___init__, D_Sheet_pieces, D_Sheet_given, D_Sheet_got, D_Sheet_waste, D_Sheet_row_of, D_Sheet_yarn, D_Sheet_makers, D_Sheet_made_by, D__law_pen, D__law_draw, D__law_names, D__law_ends, D__law_gives, D__law_makers, D__law_pieces, D__law_sheet, D__law_spoilt, D__law_due, D__law_told, D_law]
structure Tx (K : PySem.W.Frag) (mg : Str → Option Value) : Prop where
  f_Twice___init__ : ∃ fd, FunD K "__init__" "Twice.__init__" (defArgs s_Twice___init__) (defBody s_Twice___init__) (defScope s_Twice___init__) [] [] (He.ma K (He.ga K "Twice") "__init__") fd
  f_NoHome___init__ : ∃ fd, FunD K "__init__" "NoHome.__init__" (defArgs s_NoHome___init__) (defBody s_NoHome___init__) (defScope s_NoHome___init__) [] [] (He.ma K (He.ga K "NoHome") "__init__") fd
  f_NoPiece___init__ : ∃ fd, FunD K "__init__" "NoPiece.__init__" (defArgs s_NoPiece___init__) (defBody s_NoPiece___init__) (defScope s_NoPiece___init__) [] [] (He.ma K (He.ga K "NoPiece") "__init__") fd
  f_Span___init__ : ∃ fd, FunD K "__init__" "Span.__init__" (defArgs s_Span___init__) (defBody s_Span___init__) (defScope s_Span___init__) [.non] [] (He.ma K (He.ga K "Span") "__init__") fd
  f_Span___eq__ : ∃ fd, FunD K "__eq__" "Span.__eq__" (defArgs s_Span___eq__) (defBody s_Span___eq__) (defScope s_Span___eq__) [] [] (He.ma K (He.ga K "Span") "__eq__") fd
  f_Span___len__ : ∃ fd, FunD K "__len__" "Span.__len__" (defArgs s_Span___len__) (defBody s_Span___len__) (defScope s_Span___len__) [] [] (He.ma K (He.ga K "Span") "__len__") fd
  f_Span___str__ : ∃ fd, FunD K "__str__" "Span.__str__" (defArgs s_Span___str__) (defBody s_Span___str__) (defScope s_Span___str__) [] [] (He.ma K (He.ga K "Span") "__str__") fd
  f_Span___repr__ : ∃ fd, FunD K "__repr__" "Span.__repr__" (defArgs s_Span___repr__) (defBody s_Span___repr__) (defScope s_Span___repr__) [] [] (He.ma K (He.ga K "Span") "__repr__") fd
  f_Span_plus : ∃ fd, FunD K "plus" "Span.plus" (defArgs s_Span_plus) (defBody s_Span_plus) (defScope s_Span_plus) [] [] (He.ma K (He.ga K "Span") "plus") fd
  f_Sheet_homes : ∃ fd, FunD K "homes" "Sheet.homes" (defArgs s_Sheet_homes) (defBody s_Sheet_homes) (defScope s_Sheet_homes) [] [] (He.ma K (He.ga K "Sheet") "homes") fd
  f_Sheet_look_at : ∃ fd, FunD K "look_at" "Sheet.look_at" (defArgs s_Sheet_look_at) (defBody s_Sheet_look_at) (defScope s_Sheet_look_at) [] [] (He.ma K (He.ga K "Sheet") "look_at") fd
  f_Sheet___init__ : ∃ fd, FunD K "__init__" "Sheet.__init__" (defArgs s_Sheet___init__) (defBody s_Sheet___init__) (defScope s_Sheet___init__) [.non, .non] [] (He.ma K (He.ga K "Sheet") "__init__") fd
  f_Sheet_pieces : ∃ fd, FunD K "pieces" "Sheet.pieces" (defArgs s_Sheet_pieces) (defBody s_Sheet_pieces) (defScope s_Sheet_pieces) [] [] (He.ma K (He.ga K "Sheet") "pieces") fd
  f_Sheet_given : ∃ fd, FunD K "given" "Sheet.given" (defArgs s_Sheet_given) (defBody s_Sheet_given) (defScope s_Sheet_given) [] [] (He.ma K (He.ga K "Sheet") "given") fd
  f_Sheet_got : ∃ fd, FunD K "got" "Sheet.got" (defArgs s_Sheet_got) (defBody s_Sheet_got) (defScope s_Sheet_got) [] [] (He.ma K (He.ga K "Sheet") "got") fd
  f_Sheet_waste : ∃ fd, FunD K "waste" "Sheet.waste" (defArgs s_Sheet_waste) (defBody s_Sheet_waste) (defScope s_Sheet_waste) [] [] (He.ma K (He.ga K "Sheet") "waste") fd
  f_Sheet_row_of : ∃ fd, FunD K "row_of" "Sheet.row_of" (defArgs s_Sheet_row_of) (defBody s_Sheet_row_of) (defScope s_Sheet_row_of) [] [] (He.ma K (He.ga K "Sheet") "row_of") fd
  f_Sheet_yarn : ∃ fd, FunD K "yarn" "Sheet.yarn" (defArgs s_Sheet_yarn) (defBody s_Sheet_yarn) (defScope s_Sheet_yarn) [] [] (He.ma K (He.ga K "Sheet") "yarn") fd
  f_Sheet_makers : ∃ fd, FunD K "makers" "Sheet.makers" (defArgs s_Sheet_makers) (defBody s_Sheet_makers) (defScope s_Sheet_makers) [] [] (He.ma K (He.ga K "Sheet") "makers") fd
  f_Sheet_made_by : ∃ fd, FunD K "made_by" "Sheet.made_by" (defArgs s_Sheet_made_by) (defBody s_Sheet_made_by) (defScope s_Sheet_made_by) [] [] (He.ma K (He.ga K "Sheet") "made_by") fd
  f__law_pen : ∃ fd, FunD K "_law_pen" "_law_pen" (defArgs s__law_pen) (defBody s__law_pen) (defScope s__law_pen) [] [] (He.ga K "_law_pen") fd
  f__law_draw : ∃ fd, FunD K "_law_draw" "_law_draw" (defArgs s__law_draw) (defBody s__law_draw) (defScope s__law_draw) [] [] (He.ga K "_law_draw") fd
  f__law_names : ∃ fd, FunD K "_law_names" "_law_names" (defArgs s__law_names) (defBody s__law_names) (defScope s__law_names) [] [] (He.ga K "_law_names") fd
  f__law_ends : ∃ fd, FunD K "_law_ends" "_law_ends" (defArgs s__law_ends) (defBody s__law_ends) (defScope s__law_ends) [] [] (He.ga K "_law_ends") fd
  f__law_gives : ∃ fd, FunD K "_law_gives" "_law_gives" (defArgs s__law_gives) (defBody s__law_gives) (defScope s__law_gives) [] [] (He.ga K "_law_gives") fd
  f__law_makers : ∃ fd, FunD K "_law_makers" "_law_makers" (defArgs s__law_makers) (defBody s__law_makers) (defScope s__law_makers) [] [] (He.ga K "_law_makers") fd
  f__law_pieces : ∃ fd, FunD K "_law_pieces" "_law_pieces" (defArgs s__law_pieces) (defBody s__law_pieces) (defScope s__law_pieces) [] [] (He.ga K "_law_pieces") fd
  f__law_sheet : ∃ fd, FunD K "_law_sheet" "_law_sheet" (defArgs s__law_sheet) (defBody s__law_sheet) (defScope s__law_sheet) [] [] (He.ga K "_law_sheet") fd
  f__law_spoilt : ∃ fd, FunD K "_law_spoilt" "_law_spoilt" (defArgs s__law_spoilt) (defBody s__law_spoilt) (defScope s__law_spoilt) [] [] (He.ga K "_law_spoilt") fd
  f__law_due : ∃ fd, FunD K "_law_due" "_law_due" (defArgs s__law_due) (defBody s__law_due) (defScope s__law_due) [] [] (He.ga K "_law_due") fd
  f__law_told : ∃ fd, FunD K "_law_told" "_law_told" (defArgs s__law_told) (defBody s__law_told) (defScope s__law_told) [] [] (He.ga K "_law_told") fd
  f_law : ∃ fd, FunD K "law" "law" (defArgs s_law) (defBody s_law) (defScope s_law) [] [] (He.ga K "law") fd
  g__law_pen : mg "_law_pen" = some (.ref (He.ga K "_law_pen"))
  g__law_draw : mg "_law_draw" = some (.ref (He.ga K "_law_draw"))
  g__law_names : mg "_law_names" = some (.ref (He.ga K "_law_names"))
  g__law_ends : mg "_law_ends" = some (.ref (He.ga K "_law_ends"))
  g__law_gives : mg "_law_gives" = some (.ref (He.ga K "_law_gives"))
  g__law_makers : mg "_law_makers" = some (.ref (He.ga K "_law_makers"))
  g__law_pieces : mg "_law_pieces" = some (.ref (He.ga K "_law_pieces"))
  g__law_sheet : mg "_law_sheet" = some (.ref (He.ga K "_law_sheet"))
  g__law_spoilt : mg "_law_spoilt" = some (.ref (He.ga K "_law_spoilt"))
  g__law_due : mg "_law_due" = some (.ref (He.ga K "_law_due"))
  g__law_told : mg "_law_told" = some (.ref (He.ga K "_law_told"))
  g_law : mg "law" = some (.ref (He.ga K "law"))
  g_Span : mg "Span" = some (.ref (He.ga K "Span"))
  g_Sheet : mg "Sheet" = some (.ref (He.ga K "Sheet"))
  g_Twice : mg "Twice" = some (.ref (He.ga K "Twice"))
  g_NoHome : mg "NoHome" = some (.ref (He.ga K "NoHome"))
  g_NoPiece : mg "NoPiece" = some (.ref (He.ga K "NoPiece"))
  n_KeyError : mg "KeyError" = none
  n_ValueError : mg "ValueError" = none
  n_abs : mg "abs" = none
  n_enumerate : mg "enumerate" = none
  n_isinstance : mg "isinstance" = none
  n_len : mg "len" = none
  n_list : mg "list" = none
  n_min : mg "min" = none
  n_range : mg "range" = none
  n_set : mg "set" = none
  n_sorted : mg "sorted" = none
  n_sum : mg "sum" = none
  n_tuple : mg "tuple" = none
  ck : ClsOk K (zx K)
  tb : TabOkK tsC K
  co_law : CodeK K (He.ga K "law") (tabAt K "law").1
  cl_Span : Cls K (He.ga K "Span")
  cl_Sheet : Cls K (He.ga K "Sheet")
  na_Sheet_gives : NoAttr K (He.ga K "Sheet") "gives"
  na_Sheet_told : NoAttr K (He.ga K "Sheet") "told"
  na_Span_least : NoAttr K (He.ga K "Span") "least"
  na_Span_most : NoAttr K (He.ga K "Span") "most"
  mt_Sheet_given : Meth K (He.ga K "Sheet") "given" (He.ma K (He.ga K "Sheet") "given")
  mt_Sheet_got : Meth K (He.ga K "Sheet") "got" (He.ma K (He.ga K "Sheet") "got")
  mt_Sheet_homes : Meth K (He.ga K "Sheet") "homes" (He.ma K (He.ga K "Sheet") "homes")
  mt_Sheet_look_at : Meth K (He.ga K "Sheet") "look_at" (He.ma K (He.ga K "Sheet") "look_at")
  mt_Sheet_made_by : Meth K (He.ga K "Sheet") "made_by" (He.ma K (He.ga K "Sheet") "made_by")
  mt_Sheet_makers : Meth K (He.ga K "Sheet") "makers" (He.ma K (He.ga K "Sheet") "makers")
  mt_Sheet_pieces : Meth K (He.ga K "Sheet") "pieces" (He.ma K (He.ga K "Sheet") "pieces")
  mt_Sheet_row_of : Meth K (He.ga K "Sheet") "row_of" (He.ma K (He.ga K "Sheet") "row_of")
  mt_Sheet_waste : Meth K (He.ga K "Sheet") "waste" (He.ma K (He.ga K "Sheet") "waste")
  mt_Sheet_yarn : Meth K (He.ga K "Sheet") "yarn" (He.ma K (He.ga K "Sheet") "yarn")
  mt_Span_plus : Meth K (He.ga K "Span") "plus" (He.ma K (He.ga K "Span") "plus")
  mk_Sheet : Mk K (He.ga K "Sheet") (He.ma K (He.ga K "Sheet") "__init__")
  mk_Span : Mk K (He.ga K "Span") (He.ma K (He.ga K "Span") "__init__")
  io_Span : IsOk K (zx K) (.i 0)
  eq_Span : Meth K (He.ga K "Span") "__eq__" (He.ma K (He.ga K "Span") "__eq__")
  ne_Span : PySem.W.findIn K (.ref (He.ga K "Span")) "__ne__" = some (some (.builtin "object.__ne__"))
  iC_NoHome : PySem.W.findIn K (.ref (He.ga K "NoHome")) "__init__" = some (some (.ref (He.ma K (He.ga K "NoHome") "__init__")))
  iC_NoPiece : PySem.W.findIn K (.ref (He.ga K "NoPiece")) "__init__" = some (some (.ref (He.ma K (He.ga K "NoPiece") "__init__")))
  iC_Twice : PySem.W.findIn K (.ref (He.ga K "Twice")) "__init__" = some (some (.ref (He.ma K (He.ga K "Twice") "__init__")))
  oex_NoHome : OexK K (He.ga K "NoHome") bm_KeyError "LookupError.__new__"
  oex_NoPiece : OexK K (He.ga K "NoPiece") bm_KeyError "LookupError.__new__"
  oex_Twice : OexK K (He.ga K "Twice") bm_ValueError "ValueError.__new__"
  tI_NoHome : PySem.W.typeIn K (.ref (He.ma K (He.ga K "NoHome") "__init__")) = some (.type "function")
  tI_NoPiece : PySem.W.typeIn K (.ref (He.ma K (He.ga K "NoPiece") "__init__")) = some (.type "function")
  tI_Twice : PySem.W.typeIn K (.ref (He.ma K (He.ga K "Twice") "__init__")) = some (.type "function")
  xc_NoHome : XcC K (He.ga K "NoHome")
  xc_NoPiece : XcC K (He.ga K "NoPiece")
  xc_Twice : XcC K (He.ga K "Twice")
  xk_NoHome_KeyError : PySem.W.kitOne K (.ref (He.ga K "NoHome")) (.type "KeyError") = some true
  xk_NoHome_NoHome : PySem.W.kitOne K (.ref (He.ga K "NoHome")) (.ref (He.ga K "NoHome")) = some true
  xk_NoHome_NoPiece : PySem.W.kitOne K (.ref (He.ga K "NoHome")) (.ref (He.ga K "NoPiece")) = some false
  xk_NoHome_Twice : PySem.W.kitOne K (.ref (He.ga K "NoHome")) (.ref (He.ga K "Twice")) = some false
  xk_NoHome_ValueError : PySem.W.kitOne K (.ref (He.ga K "NoHome")) (.type "ValueError") = some false
  xk_NoPiece_KeyError : PySem.W.kitOne K (.ref (He.ga K "NoPiece")) (.type "KeyError") = some true
  xk_NoPiece_NoHome : PySem.W.kitOne K (.ref (He.ga K "NoPiece")) (.ref (He.ga K "NoHome")) = some false
  xk_NoPiece_NoPiece : PySem.W.kitOne K (.ref (He.ga K "NoPiece")) (.ref (He.ga K "NoPiece")) = some true
  xk_NoPiece_Twice : PySem.W.kitOne K (.ref (He.ga K "NoPiece")) (.ref (He.ga K "Twice")) = some false
  xk_NoPiece_ValueError : PySem.W.kitOne K (.ref (He.ga K "NoPiece")) (.type "ValueError") = some false
  xk_Twice_KeyError : PySem.W.kitOne K (.ref (He.ga K "Twice")) (.type "KeyError") = some false
  xk_Twice_NoHome : PySem.W.kitOne K (.ref (He.ga K "Twice")) (.ref (He.ga K "NoHome")) = some false
  xk_Twice_NoPiece : PySem.W.kitOne K (.ref (He.ga K "Twice")) (.ref (He.ga K "NoPiece")) = some false
  xk_Twice_Twice : PySem.W.kitOne K (.ref (He.ga K "Twice")) (.ref (He.ga K "Twice")) = some true
  xk_Twice_ValueError : PySem.W.kitOne K (.ref (He.ga K "Twice")) (.type "ValueError") = some true
  xm_NoHome_Twice_NoHome_NoPiece : PySem.W.exmAny K (.ref (He.ga K "NoHome")) [(.ref (He.ga K "Twice")), (.ref (He.ga K "NoHome")), (.ref (He.ga K "NoPiece"))] = some true
  xm_NoPiece_Twice_NoHome_NoPiece : PySem.W.exmAny K (.ref (He.ga K "NoPiece")) [(.ref (He.ga K "Twice")), (.ref (He.ga K "NoHome")), (.ref (He.ga K "NoPiece"))] = some true
  xm_Twice_Twice_NoHome_NoPiece : PySem.W.exmAny K (.ref (He.ga K "Twice")) [(.ref (He.ga K "Twice")), (.ref (He.ga K "NoHome")), (.ref (He.ga K "NoPiece"))] = some true
  xno_NoHome_name : PySem.W.findIn K (.ref (He.ga K "NoHome")) "name" = some none
  xno_NoPiece_name : PySem.W.findIn K (.ref (He.ga K "NoPiece")) "name" = some none
  xno_Twice_name : PySem.W.findIn K (.ref (He.ga K "Twice")) "name" = some none
abbrev loose0 : List Str := ["_wall", "Twice", "NoHome", "NoPiece", "Span", "Sheet", "_law_pen", "_law_draw", "_law_names", "_law_ends", "_law_gives", "_law_makers", "_law_pieces", "_law_sheet", "_law_spoilt", "_law_due", "_law_told"]
abbrev looseY : List Str := loose0
abbrev RY : PySem.W.OpenRow := PySem.W.OpenLaw.row PySem.Challenge.rw_yarnback_k08_sheets_refused
abbrev hkY : PySem.W.Hook := hookT tsC 5 FA FN
def obY (s : PySem.W.SharedT) : AlY := obsTG tsC 5 FA FN (HandSHeadRun.getT s)
theorem obY_eq (s : PySem.W.SharedT) : obY s = hkY.obs s.abs := obsTG_eq (HandSHeadRun.getT_eq s)
theorem runY (w : World) : HandSHeadRun.RunEq RY (PySem.W.view RY.prog [21]) hkY obY 6000 looseY w := by
  intro os
  kernel_rfl
end Y
/-! ## no more -/
namespace Y
open PySem L2
/-- _law_pen -/
def d__law_pen : DS := (dRetD (dDisp [((dC (.str "cells")), (dFz (lComp (iSq (dFz (lCut (dVar 0) oNone (oPart (dC (.int 63)))))) (.one 1) tYes' (dVar 1)))), ((dC (.str "at")), (dC (.int 0))), ((dC (.str "left")), (dC (.int 0)))]))
/-- _law_draw -/
def d__law_draw : DS := (dSeq (dIf (dTest (dOp oGt (dOp oSub' (dVar 0) (dC (.str "left"))) (dC (.int 0))))
  (dSeq (dAsg 2 (dOp oMod (dOp oSub' (dVar 0) (dC (.str "left"))) (dVar 1)))
  (dSeq (dDPut (dVar 0) (dC (.str "left")) (dOp oDiv (dOp oSub' (dVar 0) (dC (.str "left"))) (dVar 1)))
  (dRet (dVar 2))))
  dNext)
  (dSeq (dAsg 3 (dOp oSub' (dVar 0) (dC (.str "at"))))
  (dSeq (dDPut (dVar 0) (dC (.str "at")) (dOp oPlus (dVar 3) (dC (.int 1))))
  (dSeq (dAsg 4 (dOp oPlus (dOp oTimes (dVar 3) (dVar 3)) (dC (.int 5))))
  (dSeq (dIf (dTest (dOp (oEqX true) (dOp oSub' (dVar 0) (dC (.str "cells"))) (dFz (lDisp aNil))))
  (dAsg 4 (dOp oSub' (dOp oSub' (dVar 0) (dC (.str "cells"))) (dOp oMod (dVar 3) (dCB cLen (aCons (dOp oSub' (dVar 0) (dC (.str "cells"))) aNil)))))
  dNext)
  (dSeq (dIf (dAnd (dTest (dOp oLt (dVar 3) (dCB cLen (aCons (dOp oSub' (dVar 0) (dC (.str "cells"))) aNil)))) (dTest (dOp oGe (dCB cAbs (aCons (dVar 4) aNil)) (dOp oPow (dC (.int 10)) (dC (.int 18))))))
  (dSeq (dDPut (dVar 0) (dC (.str "left")) (dOp oDiv (dCB cAbs (aCons (dVar 4) aNil)) (dVar 1)))
  (dRet (dOp oMod (dCB cAbs (aCons (dVar 4) aNil)) (dVar 1))))
  dNext)
  (dSeq (dAsg 5 (dOp oMod (dOp oTimes (dOp oPlus (dOp oPlus (dOp oMod (dVar 4) (dC (.int 4294967311))) (dOp oTimes (dC (.int 65539)) (dVar 3))) (dC (.int 17))) (dC (.int 48271))) (dC (.int 4294967311))))
  (dSeq (dFor [6] (iRg1 (aCons (dC (.int 3)) aNil)) (gN 6)
  (dSeq (dAsg 5 (dOp oPlus (dOp oPlus (dOp oPlus (dOp oTimes (dVar 5) (dVar 5)) (dOp oTimes (dC (.int 69621)) (dVar 5))) (dVar 3)) (dVar 6)))
  (dAsg 5 (dOp oMod (dVar 5) (dC (.int 4294967311))))))
  (dRet (dOp oMod (dOp oDiv (dVar 5) (dC (.int 32))) (dVar 1)))))))))))

/-! ### the pen -/
structure Pen where
  cells : List Int
  a : Int
  l : Int
def penT (p : Pen) : T := .dK [(.inr "cells", .lst (p.cells.map .int)), (.inr "at", .int p.a), (.inr "left", .int p.l)]
/-- a pen after at most n draws -/
structure PenB (n : Nat) (p : Pen) : Prop where
  a0 : 0 ≤ p.a
  a1 : p.a ≤ n
  l0 : 0 ≤ p.l
theorem PenB.mono {n m : Nat} {p : Pen} (h : PenB n p) (e : n ≤ m) : PenB m p := ⟨h.a0, by have := h.a1; omega, h.l0⟩
def c__law_draw : Ct := fun ts k _ => ∃ (n : Nat) (p : Pen) (m : Int), ts = [penT p, .fz (.int m)] ∧ PenB n p ∧ n ≤ 1000000000 ∧ 1 ≤ m ∧ m ≤ 100000000000000000000 ∧
  ∀ d p', 0 ≤ d → d < m → PenB (n + 1) p' → k (.fz (.int d)) [penT p', .fz (.int m)]
/-! ### ways that are known -/
theorem no {A B : Prop} (h : B) : (false = true → A) ∧ (false = false → B) := ⟨(fun z => nomatch z), fun _ => h⟩
theorem ye {A B : Prop} (h : A) : (true = true → A) ∧ (true = false → B) := ⟨fun _ => h, (fun z => nomatch z)⟩
/-! ### loops by a word -/
theorem forW_ind {fg : List Nat} {g : DG} {body : DS} {D : DEnds} (I : Nat → S → Prop) : ∀ (items : List W) (i : Nat) (st : S), (∀ j w, items[j]? = some w → ∀ k : S → Prop, (∀ st, I (i + j + 1) (wipeS st fg) → k st) → ∀ st, I (i + j) st → g w st fun st1 => body { D with nx := k, ct := k, bk := fun st => D.nx (wipeS st fg) } st1) →
    (∀ st, I (i + items.length) st → D.nx st) → I i (wipeS st fg) → forW fg g body D items st
  | [], i, st, _, hd, h0 => hd _ h0
  | w :: ws, i, st, hs, hd, h0 => by
    refine hs 0 w rfl (forW fg g body D ws) (fun st1 h1 => ?_) (wipeS st fg) h0
    refine forW_ind I ws (i + 1) st1 (fun j u hu k hk st2 h2 => ?_) (fun st2 h2 => hd st2 ?_) h1
    · refine hs (j + 1) u hu k (fun st3 h3 => hk st3 ?_) st2 ?_
      · rw [show i + 1 + j + 1 = i + (j + 1) + 1 by omega]; exact h3
      · rw [show i + (j + 1) = i + 1 + j by omega]; exact h2
    · rw [List.length_cons, show i + (ws.length + 1) = i + 1 + ws.length by omega]; exact h2
theorem for_ind {fg : List Nat} {g : DG} {body : DS} {D : DEnds} {items : List W} {st : S} (I : Nat → S → Prop) (h0 : I 0 (wipeS st fg)) (hs : ∀ j w, items[j]? = some w → ∀ k : S → Prop, (∀ st, I (j + 1) (wipeS st fg) → k st) → ∀ st, I j st → g w st fun st1 => body { D with nx := k, ct := k, bk := fun st => D.nx (wipeS st fg) } st1)
    (hd : ∀ st, I items.length st → D.nx st) : forW fg g body D items st :=
  forW_ind I items 0 st (fun j w hw k hk st hi => hs j w hw k (fun st h => hk st (by rw [Nat.zero_add]; exact h)) st (by rw [Nat.zero_add] at hi; exact hi)) (fun st h => hd st (by rw [Nat.zero_add] at h; exact h)) h0
/-! ### comprehensions that change nothing -/
def Turn' (ct : CT) (cond : DT) (elt : DE) (st : S) (f : W → Option W) (w : W) : Prop := ∀ (A : W → S → Prop) (B : S → Prop), (match f w with | some v => A v st | none => B st) →
  ct.g w st fun st1 => cond st1 (fun b st2 =>
      (b = true → elt st2 (fun r st3 => match r with
        | .w v => A v (wipeS st3 ct.own)
        | .pk _ => False) (fun _ _ => False)) ∧
      (b = false → B (wipeS st2 ct.own))) (fun _ _ => False)
theorem compW_pure {ct : CT} {cond : DT} {elt : DE} {st : S} (f : W → Option W) : ∀ (ws acc : List W) (k : List W → S → Prop), (∀ w ∈ ws, Turn' ct cond elt st f w) → acc.length + ws.length ≤ sizeLine → k (acc ++ ws.filterMap f) st → compW ct cond elt ws acc st k
  | [], acc, k, _, _, h => by rw [List.filterMap_nil, List.append_nil] at h; exact h
  | w :: ws, acc, k, ht, hl, h => by
    rw [List.length_cons] at hl
    refine ht w List.mem_cons_self (fun v st' => acc.length < sizeLine ∧ compW ct cond elt ws (acc ++ [v]) st' k) (fun st' => compW ct cond elt ws acc st' k) ?_
    cases e : f w with
    | none =>
      rw [List.filterMap_cons, e] at h
      exact compW_pure f ws acc k (fun u hu => ht u (List.mem_cons_of_mem _ hu)) (by omega) h
    | some v =>
      rw [List.filterMap_cons, e] at h
      refine ⟨by omega, compW_pure f ws (acc ++ [v]) k (fun u hu => ht u (List.mem_cons_of_mem _ hu)) (by rw [List.length_append, List.length_singleton]; omega) ?_⟩
      rw [List.append_assoc]; exact h
/-! ### lists of numbers as data -/
theorem pds_ints : ∀ ns : List Int, W.pds (ns.map W.int) = some (ns.map PyData.int)
  | [] => rfl
  | n :: ns => by rw [List.map_cons, List.map_cons]; unfold W.pds; rw [pds_ints ns]; rfl
theorem pd_ints (ns : List Int) : (W.lst (ns.map W.int)).pd = some (.list (ns.map .int)) := by unfold W.pd; rw [pds_ints]; rfl
theorem lay_ints : ∀ ns : List Int, PyData.canLayAll0 (ns.map PyData.int) = true
  | [] => rfl
  | n :: ns => by rw [List.map_cons]; unfold PyData.canLayAll0; rw [lay_ints ns]; rfl
theorem depth_ints : ∀ ns : List Int, PyData.depthAll (ns.map PyData.int) = 0
  | [] => rfl
  | n :: ns => by rw [List.map_cons]; unfold PyData.depthAll; rw [depth_ints ns]; rfl
theorem shaped_ints (ns : List Int) : SeqAt.shaped (.list (ns.map PyData.int)) = true := by
  unfold SeqAt.shaped
  have h1 : PyData.canLay0 (.list (ns.map PyData.int)) = true := by unfold PyData.canLay0; exact lay_ints ns
  have h2 : PyData.depth (.list (ns.map PyData.int)) = 1 := by unfold PyData.depth; rw [depth_ints]
  rw [h1, h2]; rfl
theorem atI_int {ns : List Int} {i : Int} (h0 : 0 ≤ i) (h1 : i < ns.length) : ∃ c, atI (ns.map W.int) i = some (.int c) ∧ ns[i.toNat]? = some c := by
  have hl : i.toNat < ns.length := by omega
  refine ⟨ns[i.toNat], ?_, by simp [hl]⟩
  have := atI_nat (xs := ns.map W.int) (j := i.toNat) (v := .int ns[i.toNat]) (by simp [hl])
  rwa [show ((i.toNat : Nat) : Int) = i by omega] at this
theorem div_ok {i m : Int} (h1 : 1 ≤ m) (h2 : m ≤ 100000000000000000000) : CDivW i m := wide_div (b := 67) (by omega) (by omega) (by decide) (by decide)
theorem mul_small {i j : Int} (h1 : -(2 ^ 100) < i) (h2 : i < 2 ^ 100) (h3 : -(2 ^ 100) < j) (h4 : j < 2 ^ 100) : CMulW i j := wide_mul (a := 100) (b := 100) (by omega) (by omega) (by decide) (by decide) (by decide)
def drawTail : DS := (dSeq (dAsg 5 (dOp oMod (dOp oTimes (dOp oPlus (dOp oPlus (dOp oMod (dVar 4) (dC (.int 4294967311))) (dOp oTimes (dC (.int 65539)) (dVar 3))) (dC (.int 17))) (dC (.int 48271))) (dC (.int 4294967311))))
  (dSeq (dFor [6] (iRg1 (aCons (dC (.int 3)) aNil)) (gN 6)
  (dSeq (dAsg 5 (dOp oPlus (dOp oPlus (dOp oPlus (dOp oTimes (dVar 5) (dVar 5)) (dOp oTimes (dC (.int 69621)) (dVar 5))) (dVar 3)) (dVar 6)))
  (dAsg 5 (dOp oMod (dVar 5) (dC (.int 4294967311))))))
  (dRet (dOp oMod (dOp oDiv (dVar 5) (dC (.int 32))) (dVar 1)))))
theorem draw_tail (cells : List Int) (a l m c : Int) {n : Nat} {k : T → List T → Prop} {kx : XW → List T → Prop} (h0 : 0 ≤ a) (a1 : a ≤ n) (hn : n ≤ 1000000000) (hm : 1 ≤ m) (hm2 : m ≤ 100000000000000000000)
    (hk : ∀ d, 0 ≤ d → d < m → k (.fz (.int d)) [penT ⟨cells, a + 1, l⟩, .fz (.int m)]) :
    drawTail (endsOf [penT ⟨cells, a, l⟩, .fz (.int m)] k kx) [.mp 0 (penT ⟨cells, a + 1, l⟩), .lo (.fz (.int m)), .un, .lo (.fz (.int a)), .lo (.fz (.int c)), .un, .un] := by
  refine ⟨by omega, mul_small (by decide) (by decide) (by omega) (by omega), mul_small (by omega) (by omega) (by decide) (by decide), by omega, ?_⟩
  refine ⟨by decide, ?_⟩
  refine for_ind (fun i st => ∃ num : Int, 0 ≤ num ∧ num < 4294967311 ∧ st = [.mp 0 (penT ⟨cells, a + 1, l⟩), .lo (.fz (.int m)), .un, .lo (.fz (.int a)), .lo (.fz (.int c)), .lo (.fz (.int num)), .un]) ⟨_, Int.emod_nonneg _ (by decide), Int.emod_lt_of_pos _ (by decide), rfl⟩ ?_ ?_
  · rintro j w hw k hk' st ⟨num, n0, n1, rfl⟩
    rw [List.getElem?_map] at hw
    obtain ⟨j', h1, rfl⟩ := Option.map_eq_some_iff.mp hw
    refine ⟨mul_small (by omega) (by omega) (by omega) (by omega), mul_small (by decide) (by decide) (by omega) (by omega), by omega, ?_⟩
    exact hk' _ ⟨_, Int.emod_nonneg _ (by decide), Int.emod_lt_of_pos _ (by decide), rfl⟩
  · rintro st ⟨num, n0, n1, rfl⟩
    refine ⟨div_ok (by decide) (by decide), by omega, ?_⟩
    exact hk _ (Int.emod_nonneg _ (by omega)) (Int.emod_lt_of_pos _ (by omega))
def drawMid : DS := (dSeq (dIf (dAnd (dTest (dOp oLt (dVar 3) (dCB cLen (aCons (dOp oSub' (dVar 0) (dC (.str "cells"))) aNil)))) (dTest (dOp oGe (dCB cAbs (aCons (dVar 4) aNil)) (dOp oPow (dC (.int 10)) (dC (.int 18))))))
  (dSeq (dDPut (dVar 0) (dC (.str "left")) (dOp oDiv (dCB cAbs (aCons (dVar 4) aNil)) (dVar 1)))
  (dRet (dOp oMod (dCB cAbs (aCons (dVar 4) aNil)) (dVar 1))))
  dNext) drawTail)
theorem draw_mid (cells : List Int) (a l m c : Int) {n : Nat} {k : T → List T → Prop} {kx : XW → List T → Prop} (h0 : 0 ≤ a) (a1 : a ≤ n) (hn : n ≤ 1000000000) (hm : 1 ≤ m) (hm2 : m ≤ 100000000000000000000) (l0 : 0 ≤ l)
    (hk : ∀ d l', 0 ≤ l' → 0 ≤ d → d < m → k (.fz (.int d)) [penT ⟨cells, a + 1, l'⟩, .fz (.int m)]) :
    drawMid (endsOf [penT ⟨cells, a, l⟩, .fz (.int m)] k kx) [.mp 0 (penT ⟨cells, a + 1, l⟩), .lo (.fz (.int m)), .un, .lo (.fz (.int a)), .lo (.fz (.int c)), .un, .un] := by
  have tail := draw_tail (kx := kx) cells a l m c h0 a1 hn hm hm2 (fun d d0 d1 => hk d l l0 d0 d1)
  refine ⟨_, rfl, fun h1 => ?_, fun h1 => no tail⟩
  refine ⟨⟨by decide, by decide, by decide⟩, fun h2 => ?_, fun h2 => tail⟩
  have hc : 0 ≤ (if c < 0 then -c else c) := by split <;> omega
  refine ⟨div_ok hm hm2, by show (3 : Nat) < sizeLine; decide, by omega, ?_⟩
  exact hk _ _ (Int.ediv_nonneg hc (by omega)) (Int.emod_nonneg _ (by omega)) (Int.emod_lt_of_pos _ (by omega))
def c__law_pen : Ct := fun ts k _ => ∃ ns : List Int, ts = [.fz (.scr ns)] ∧ ns.length ≤ 63 ∧ k (penT ⟨ns, 0, 0⟩) [.fz (.scr ns)]
theorem cut63 {ns : List Int} (h : ns.length ≤ 63) : cutW (ns.map W.int) none (some 63) = ns.map W.int := by
  unfold cutW
  have e : HT.sIx (ns.map W.int).length (ns.map W.int).length (some 63) = (ns.map W.int).length := by
    have := HT.sIx_nat (ns.map W.int).length (ns.map W.int).length 63
    rw [show (some 63 : Option Int) = some ((63 : Nat) : Int) from rfl, this, List.length_map]
    omega
  rw [e, HT.sIx_none, Nat.sub_zero, List.drop_zero, List.take_length]
theorem m__law_pen : Meets c__law_pen 1 1 d__law_pen := by
  intro ts k kx h
  obtain ⟨ns, rfl, hn, hk⟩ := h
  refine ⟨rfl, ?_⟩
  show compW (.one 1) tYes' (dVar 1) (cutW (ns.map W.int) none (some 63)) [] _ _
  rw [cut63 hn]
  have hl : (63 : Nat) ≤ sizeLine := by decide
  refine compW_pure (fun w => some w) _ _ _ (fun w hw A B h => ?_) (by rw [List.length_map]; show 0 + ns.length ≤ _; omega) ?_
  · exact ye h
  · rw [List.filterMap_some]
    refine ⟨by show (3 : Nat) ≤ 15; decide, ?_⟩
    exact hk
theorem m__law_draw : Meets c__law_draw 2 5 d__law_draw := by
  intro ts k kx h
  obtain ⟨n, ⟨cells, a, l⟩, m, rfl, hp, hn, h1, h2, hk⟩ := h
  obtain ⟨a0, a1, l0⟩ := hp
  replace a0 : 0 ≤ a := a0
  replace a1 : a ≤ n := a1
  replace l0 : 0 ≤ l := l0
  refine ⟨rfl, ?_⟩
  refine ⟨.int l, rfl, fun h => ?_, fun h => ?_⟩
  · have hl : 0 < l := of_decide_eq_true h
    refine ⟨.int l, rfl, by omega, .int l, rfl, div_ok h1 h2, by show (3 : Nat) < sizeLine; decide, ?_⟩
    exact hk (l % m) ⟨cells, a, l / m⟩ (Int.emod_nonneg _ (by omega)) (Int.emod_lt_of_pos _ (by omega)) ⟨a0, by show a ≤ _; omega, Int.ediv_nonneg l0 (by omega)⟩
  · have mid := fun c => draw_mid (kx := kx) cells a l m c a0 a1 hn h1 h2 l0 (fun d l' hl' d0 d1 => hk d ⟨cells, a + 1, l'⟩ d0 d1 ⟨by show 0 ≤ a + 1; omega, by show a + 1 ≤ _; omega, hl'⟩)
    refine ⟨.int a, rfl, by show (3 : Nat) < sizeLine; decide, mul_small (by omega) (by omega) (by omega) (by omega), ?_⟩
    refine ⟨.lst (cells.map .int), rfl, by decide, .inl ⟨.list (cells.map .int), .list [], pd_ints cells, rfl, shaped_ints cells, rfl, fun h => ?_, fun h => ?_⟩⟩
    · have hne : cells ≠ [] := by
        rintro rfl
        exact absurd h (by decide)
      have hl : 0 < cells.length := List.length_pos_iff.mpr hne
      have hlen : ((cells.map W.int).length : Int) = cells.length := by rw [List.length_map]
      obtain ⟨c, hc, _⟩ := atI_int (ns := cells) (i := a % ((cells.map W.int).length : Int)) (Int.emod_nonneg _ (by omega)) (by have := Int.emod_lt_of_pos a (b := ((cells.map W.int).length : Int)) (by omega); omega)
      refine ⟨.lst (cells.map .int), rfl, .lst (cells.map .int), rfl, by omega, .int c, hc, ?_⟩
      exact mid c
    · exact mid (a * a + 5)
end Y
namespace Y
open PySem L2
/-! ### steps of the walk over data -/
theorem lel (n : Nat) (h : Nat.ble n 1000 = true) : n ≤ sizeLine := Nat.le_trans (Nat.le_of_ble_eq_true h) (by decide)
theorem eqo {ng : Bool} {a b : W} {r : Bool} {k : W → Prop} (h : eqD 6 a b = some r) (hk : k (.bl (nq ng r))) : oEqX ng a b k := .inr ⟨r, h, hk⟩
def orW (a m : W) : W := match m with
  | .non => a
  | m => m
def mn (i j : Int) : Int := if j < i then j else i
/-- numbers that are written -/
def Sm (i : Int) : Prop := -(10 ^ 40) < i ∧ i < 10 ^ 40
theorem Sm.lg {i : Int} (h : Sm i) : i.natAbs.log2 < 1920 := by
  have h1 : i.natAbs < 2 ^ 140 := by
    have a := h.1; have b := h.2
    have : (10 : Int) ^ 40 < 2 ^ 140 := by decide
    omega
  by_cases h0 : i.natAbs = 0
  · rw [h0]; decide
  · have := (Nat.log2_lt h0 (k := 140)).mpr h1
    omega
theorem Sm.len {i : Int} (h : Sm i) : (Str.ofString (toString i)).length ≤ 42 := by
  have h1 : i.natAbs < 10 ^ 40 := by
    have a := h.1; have b := h.2
    omega
  have h2 := PySem.int_text_length_le10 (k := 40) (by decide) h1
  rw [show (Str.ofString (toString i)).length = (toString i).length from ?_]
  · omega
  · rw [Str.ofString_eq_toList]
    show (List.map Char.toNat (toString i).toList).toArray.size = _
    rw [List.size_toArray, List.length_map, String.length_toList]

/-- two ways by a test of its own -/
theorem br {c : Prop} [Decidable c] {A B : Prop} (h1 : c → A) (h2 : ¬ c → B) : (decide c = true → A) ∧ (decide c = false → B) := ⟨fun h => h1 (of_decide_eq_true h), fun h => h2 (of_decide_eq_false h)⟩
theorem brn {c : Prop} [Decidable c] {A B : Prop} (h1 : ¬ c → A) (h2 : c → B) : ((!decide c) = true → A) ∧ ((!decide c) = false → B) := ⟨fun h => h1 (by simpa using h), fun h => h2 (by simpa using h)⟩
def intS (i : Int) : Str := Str.ofString (toString i)
theorem len_app (a b : Str) : (a ++ b).length = a.length + b.length := by
  show (a.cps ++ b.cps).size = _
  rw [Array.size_append]; rfl
theorem app_nil (a : Str) : Str.empty ++ a = a := by
  show Str.mk (#[] ++ a.cps) = a
  rw [Array.empty_append]
/-- a text's length, at most -/
def SL (s : Str) (n : Nat) : Prop := s.length ≤ n
theorem SL.app {a b : Str} {m n : Nat} (h1 : SL a m) (h2 : SL b n) : SL (a ++ b) (m + n) := by unfold SL at *; rw [len_app]; omega
theorem SL.line {a : Str} {n : Nat} (h : SL a n) (hn : Nat.ble n 100000 = true) : a.length ≤ sizeLine := Nat.le_trans h (Nat.le_trans (Nat.le_of_ble_eq_true hn) (by decide))
theorem SL.sum {a b : Str} {n : Nat} (h : SL (a ++ b) n) (hn : Nat.ble n 100000 = true) : a.length + b.length ≤ sizeLine := by
  have := h.line hn
  rwa [len_app] at this
theorem Sm.sl {i : Int} (h : Sm i) : SL (intS i) 42 := h.len
theorem sl_nil : SL Str.empty 0 := Nat.le_refl _
theorem sl_lit {s : String} (n : Nat) (h : Nat.ble (Str.ofString s).length n = true) : SL (Str.ofString s) n := Nat.le_of_ble_eq_true h
/-! ### a loop over a caller's own list -/
/-- [b x for x in xs] -/
theorem compW_mapA {α : Type} {ct : CT} {cond : DT} {elt : DE} {st : S} {a b : α → W} {k : List W → S → Prop} : ∀ (xs : List α) (acc : List W), (∀ x ∈ xs, Turn' ct cond elt st (fun _ => some (b x)) (a x)) → acc.length + xs.length ≤ sizeLine → k (acc ++ xs.map b) st → compW ct cond elt (xs.map a) acc st k
  | [], acc, _, _, h => by rw [List.map_nil, List.append_nil] at h; exact h
  | x :: xs, acc, ht, hl, h => by
    rw [List.length_cons] at hl
    refine ht x List.mem_cons_self (fun v st' => acc.length < sizeLine ∧ compW ct cond elt (xs.map a) (acc ++ [v]) st' k) (fun st' => compW ct cond elt (xs.map a) acc st' k) ?_
    refine ⟨by omega, compW_mapA xs (acc ++ [b x]) (fun u hu => ht u (List.mem_cons_of_mem _ hu)) (by rw [List.length_append, List.length_singleton]; omega) ?_⟩
    rw [List.append_assoc]
    exact h
theorem compW_map {α : Type} {ct : CT} {cond : DT} {elt : DE} {st : S} {a b : α → W} {k : List W → S → Prop} {xs : List α} (ht : ∀ x ∈ xs, Turn' ct cond elt st (fun _ => some (b x)) (a x)) (hl : xs.length ≤ sizeLine) (h : k (xs.map b) st) : compW ct cond elt (xs.map a) [] st k :=
  compW_mapA xs [] ht (by rw [List.length_nil, Nat.zero_add]; exact hl) (by rw [List.nil_append]; exact h)
/-- a comprehension whose turns change the slots -/
theorem compW_stA {ct : CT} {cond : DT} {elt : DE} {k : List W → S → Prop} (I : Nat → List W → S → Prop) : ∀ (items : List W) (i : Nat) (acc : List W) (st : S),
    (∀ j w, items[j]? = some w → ∀ acc st, I (i + j) acc st → ∀ (A : W → S → Prop) (B : S → Prop), (∀ v st', I (i + j + 1) (acc ++ [v]) st' → A v st') → (∀ st', I (i + j + 1) acc st' → B st') →
      ct.g w st fun st1 => cond st1 (fun b st2 => (b = true → elt st2 (fun r st3 => match r with
        | .w v => A v (wipeS st3 ct.own)
        | .pk _ => False) (fun _ _ => False)) ∧ (b = false → B (wipeS st2 ct.own))) (fun _ _ => False)) →
    acc.length + items.length ≤ sizeLine → (∀ acc st, I (i + items.length) acc st → k acc st) → I i acc st → compW ct cond elt items acc st k
  | [], i, acc, st, _, _, hk, h0 => hk acc st h0
  | w :: ws, i, acc, st, hs, hl, hk, h0 => by
    rw [List.length_cons] at hl
    have go : ∀ (acc' : List W) (st' : S), acc'.length ≤ acc.length + 1 → I (i + 1) acc' st' → compW ct cond elt ws acc' st' k := fun acc' st' hl' h' =>
      compW_stA I ws (i + 1) acc' st' (fun j u hu acc2 st2 h2 A B hA hB => hs (j + 1) u hu acc2 st2 (by rw [show i + (j + 1) = i + 1 + j by omega]; exact h2) A B (fun v st3 h3 => hA v st3 (by rw [show i + 1 + j + 1 = i + (j + 1) + 1 by omega]; exact h3)) (fun st3 h3 => hB st3 (by rw [show i + 1 + j + 1 = i + (j + 1) + 1 by omega]; exact h3)))
        (by omega) (fun acc2 st2 h2 => hk acc2 st2 (by rw [List.length_cons, show i + (ws.length + 1) = i + 1 + ws.length by omega]; exact h2)) h'
    exact hs 0 w rfl acc st h0 (fun v st' => acc.length < sizeLine ∧ compW ct cond elt ws (acc ++ [v]) st' k) (fun st' => compW ct cond elt ws acc st' k) (fun v st' h' => ⟨by omega, go _ _ (by rw [List.length_append, List.length_singleton]; exact Nat.le_refl _) h'⟩) fun st' h' => go _ _ (Nat.le_succ _) h'
theorem compW_st {ct : CT} {cond : DT} {elt : DE} {k : List W → S → Prop} {items : List W} {st : S} (I : Nat → List W → S → Prop) (h0 : I 0 [] st)
    (hs : ∀ j w, items[j]? = some w → ∀ acc st, I j acc st → ∀ (A : W → S → Prop) (B : S → Prop), (∀ v st', I (j + 1) (acc ++ [v]) st' → A v st') → (∀ st', I (j + 1) acc st' → B st') →
      ct.g w st fun st1 => cond st1 (fun b st2 => (b = true → elt st2 (fun r st3 => match r with
        | .w v => A v (wipeS st3 ct.own)
        | .pk _ => False) (fun _ _ => False)) ∧ (b = false → B (wipeS st2 ct.own))) (fun _ _ => False))
    (hl : items.length ≤ sizeLine) (hk : ∀ acc st, I items.length acc st → k acc st) : compW ct cond elt items [] st k :=
  compW_stA I items 0 [] st (fun j w hw acc st h A B hA hB => hs j w hw acc st (by rw [Nat.zero_add] at h; exact h) A B (fun v st' h' => hA v st' (by rw [Nat.zero_add]; exact h')) fun st' h' => hB st' (by rw [Nat.zero_add]; exact h')) (by rw [List.length_nil, Nat.zero_add]; exact hl)
    (fun acc st h => hk acc st (by rw [Nat.zero_add] at h; exact h)) h0
end Y
namespace Y
open PySem L2
/-! ### == of lists of flat things -/
theorem eqW_str (n : Nat) (a b : Str) : eqW (n + 1) (.str a) (.str b) = some (decide (a = b)) := rfl
section
variable {α : Type} [DecidableEq α] {f : α → W} {n : Nat}
theorem eqWs_map (h : ∀ x y, eqW n (f x) (f y) = some (decide (x = y))) : ∀ xs ys : List α, eqWs (eqW n) (xs.map f) (ys.map f) = some (decide (xs = ys))
  | [], [] => rfl
  | [], _ :: _ => rfl
  | _ :: _, [] => rfl
  | x :: xs, y :: ys => by
    rw [List.map_cons, List.map_cons]
    unfold eqWs
    rw [h x y, eqWs_map h xs ys]
    by_cases e : x = y
    · subst e
      simp
    · simp [e]
theorem anyW_map (h : ∀ x y, eqW n (f x) (f y) = some (decide (x = y))) (a : α) : ∀ xs : List α, anyW (fun y => eqW n y (f a)) (xs.map f) = some (decide (a ∈ xs))
  | [] => rfl
  | x :: xs => by
    rw [List.map_cons]
    unfold anyW
    rw [h x a, anyW_map h a xs]
    by_cases e : x = a
    · subst e
      simp
    · have : ¬ a = x := fun q => e q.symm
      simp [e, this]
end
end Y
/-! sets of texts: set(xs) of a list or a tuple, sorted(set) -/
namespace QS
open PySem PySem.Spec PyProof.Rows L2
def kOf (e : Int × Value) : Str := match e.2 with
  | .str k _ => k
  | _ => Str.empty
def GoodT (w : World) (e : Int × Value) : Prop := ∃ k tk, e.2 = Value.str k tk ∧ e.1 = hashStr w k
/-- the set of texts at a: S its members, n their number -/
def SetT (w : World) (h : Heap) (a : Addr) (S : Str → Bool) (n : Nat) : Prop :=
  ∃ o es ep t, h.get? a = some o ∧ o.ExactSet ∧ o.data = .set es ep t ∧ (∀ e ∈ es.toList, GoodT w e) ∧ (es.toList.map kOf).Nodup ∧ (∀ k, S k = true ↔ k ∈ es.toList.map kOf) ∧
    es.size < scanBound ∧ t.fits es.size = true ∧ es.size = n ∧ Ris t.place.toList ∧ (w.params.followText "set-order" = true ∨ t.led = true)
abbrev sk (P : Program) (w : World) := PySem.strKind P w
theorem sk_is (P : Program) (w : World) (k : Str) (tk : Tok) : (sk P w).is k (.str k tk) = true := by
  show (k == k) = true
  exact beq_self_eq_true k
section
variable {P : Program} {w : World} {h h' : Heap} {a : Addr} {S : Str → Bool} {n : Nat}
theorem SetT.at (R : SetT w h a S n) (k : ∀ o, h.get? a = some o → h'.get? a = some o) : SetT w h' a S n := by
  obtain ⟨o, es, ep, t, ho, r⟩ := R
  exact ⟨o, es, ep, t, k o ho, r⟩
theorem SetT.congr {S' : Str → Bool} (R : SetT w h a S n) (e : ∀ k, S' k = S k) : SetT w h a S' n := by
  have q : S' = S := funext e
  rw [q]; exact R
theorem t_elems {l : List (Int × Value)} (g : ∀ e ∈ l, GoodT w e) : ElemsOf (sk P w) l := fun e he => by
  obtain ⟨k, tk, h1, h2⟩ := g e he
  exact ⟨⟨k, by rw [h1]; exact sk_is P w k tk, h2⟩, by rw [h1] <;> rfl⟩
theorem t_is {e : Int × Value} (g : GoodT w e) (k : Str) : (sk P w).is k e.2 = true ↔ kOf e = k := by
  obtain ⟨k0, tk, h1, _⟩ := g
  unfold kOf
  rw [h1]
  show ((k0 == k) = true) ↔ k0 = k
  exact beq_iff_eq
theorem t_mem {l : List (Int × Value)} (g : ∀ e ∈ l, GoodT w e) (k : Str) : k ∈ l.map kOf ↔ ∃ e ∈ l, (sk P w).is k e.2 = true := by
  rw [List.mem_map]
  constructor
  · rintro ⟨e, he, q⟩
    exact ⟨e, he, (t_is (P := P) (g e he) k).2 q⟩
  · rintro ⟨e, he, q⟩
    exact ⟨e, he, (t_is (P := P) (g e he) k).1 q⟩
end
section
variable {P : Program} {w : World} {A : Around} {E : Value → Shared → Prop} {s : Shared} {a : Addr} {S : Str → Bool} {n : Nat}
/-! ### one more -/
theorem t_tail {g : Bool → Sem Unit} (hg : ∀ (b : Bool) (s₁ : Shared) (Q' : Unit → Shared → Prop), Q' () s₁ → wpAny (model P w) A (g b) Q' E s₁)
    {o : Obj} {es : Array (Int × Value)} {ep : Nat} {t : SetTable} (ho : s.heap.get? a = some o) (hex : o.ExactSet) (hd : o.data = .set es ep t)
    {es1 : Array (Int × Value)} {t2 : SetTable} {S' : Str → Bool} (g1 : ∀ e ∈ es1.toList, GoodT w e) (nd1 : (es1.toList.map kOf).Nodup) (m1 : ∀ k, S' k = true ↔ k ∈ es1.toList.map kOf)
    (hb1 : es1.size < scanBound) (hf2 : t2.fits es1.size = true) (hr : Ris t2.place.toList) (hl : w.params.followText "set-order" = true ∨ t2.led = true) {wasDummy : Bool} {R : Option Bool → Shared → Prop}
    (hR : ∀ h', Heap.SameBut a s.heap h' → SetT w h' a S' es1.size → R (some true) { s with heap := h' }) :
    wpAny (model P w) A (do
        storeSet a es1 t2
        if (!wasDummy && t2.tooFull) = true then do
            g (relayAll t2 es1 (SetTable.grown es1.size)).2.2
            storeSet a (relayAll t2 es1 (SetTable.grown es1.size)).1 (relayAll t2 es1 (SetTable.grown es1.size)).2.1
            pure (some true)
          else pure (some true)) R E s := by
  refine wpAny_bind (wpAny_storeSet_of ho hd ?_ (fits_of_scanBound hb1))
  have ho1 := store_at (es' := es1) (t' := t2) ho hd
  have sb1 := Heap.SameBut.update s.heap a (Obj.putSet es1 t2)
  split
  · have pm := relayAll_perm t2 es1 (SetTable.grown es1.size)
    have hf3 := relayAll_fits t2 es1 (SetTable.grown es1.size)
    have hr3 := relayAll_ris t2 es1 (SetTable.grown es1.size)
    have hl3 := relayAll_led t2 es1 (SetTable.grown es1.size)
    generalize relayAll t2 es1 (SetTable.grown es1.size) = Z at pm hf3 hr3 hl3 ⊢
    obtain ⟨es2, t3, gave⟩ := Z
    dsimp only at pm hf3 hr3 hl3 ⊢
    have hsz : es2.size = es1.size := by rw [← Array.length_toList, pm.length_eq, Array.length_toList]
    have hb2 : es2.size < scanBound := by rw [hsz]; exact hb1
    refine wpAny_bind (hg _ _ _ ?_)
    refine wpAny_bind (wpAny_storeSet_of ho1 rfl ?_ (fits_of_scanBound hb2))
    have ho2 := store_at (es' := es2) (t' := t3) ho1 rfl
    refine wpAny_pure (hR _ (sb1.trans (Heap.SameBut.update _ a _)) ?_)
    exact ⟨_, es2, _, t3, ho2, hex, rfl, fun e he => g1 e (pm.mem_iff.mp he), (pm.map kOf).nodup_iff.mpr nd1, fun k => (m1 k).trans (pm.map kOf).mem_iff.symm, hb2, hf3, hsz, hr3,
      hl.imp id fun z => by rw [hl3]; exact z⟩
  · exact wpAny_pure (hR _ sb1 ⟨_, es1, _, t2, ho1, hex, rfl, g1, nd1, m1, hb1, hf2, rfl, hr, hl⟩)
theorem t_add {k : Str} {tk : Tok} {Q : Bool → Shared → Prop} (R : SetT w s.heap a S n) (room : n + 1 < scanBound)
    (hQ : ∀ h', Heap.SameBut a s.heap h' → SetT w h' a (fun j => S j || decide (j = k)) (if S k = true then n else n + 1) → Q (!S k) { s with heap := h' }) :
    wpAny (model P w) A (setAddHashed a (.str k tk) ((sk P w).hash k)) Q E s := by
  obtain ⟨o, es, ep, t, ho, hex, hd, g, nd, hm, hb, hf, hn, hr, hl⟩ := R
  have hkey : (sk P w).is k (.str k tk) = true := sk_is P w k tk
  have hsc : (Value.str k tk).scannable = true := rfl
  have hel : ElemsOf (sk P w) es.toList := t_elems g
  unfold setAddHashed setAddHashedIn
  refine wpAny_holding (wpAny_bind (wpAny_setState_of ho hd hf ?_))
  dsimp only
  rw [byScan_of hsc hb hel]
  simp only [↓reduceIte]
  unfold setAddByScan
  refine wpAny_bind ?_
  refine wpAny_bind (wpAny_rule ?_)
  refine wpAny_bind (wpAny_setScan_of hkey ho hd hf hel ?_)
  cases hfi : List.findIdx? (fun e => (sk P w).is k e.2) es.toList with
  | some j =>
    dsimp only
    obtain ⟨hj, pj, _⟩ := List.findIdx?_eq_some_iff_getElem.mp hfi
    have hSk : S k = true := (hm k).2 ((t_mem (P := P) (w := w) g k).2 ⟨es.toList[j], List.getElem_mem hj, pj⟩)
    refine wpAny_pure (wpAny_pure ?_)
    have q := hQ s.heap (Heap.SameBut.refl a s.heap) ⟨o, es, ep, t, ho, hex, hd, g, nd, fun i => by
      rw [Bool.or_eq_true, decide_eq_true_eq, ← hm i]
      exact ⟨fun z => z.elim id (fun e => e ▸ hSk), .inl⟩, hb, hf, by rw [if_pos hSk]; exact hn, hr, hl⟩
    rw [hSk] at q
    exact q
  | none =>
    dsimp only
    have hnk : k ∉ es.toList.map kOf := fun z => by
      obtain ⟨e, he, q⟩ := (t_mem (P := P) (w := w) g k).1 z
      have c := List.findIdx?_eq_none_iff.mp hfi e he
      rw [q] at c
      cases c
    have hSk : S k = false := by
      cases q : S k with
      | false => rfl
      | true => exact absurd ((hm k).1 q) hnk
    have hgw : ∀ (b : Bool) {s₁ : Shared} {Q' : Unit → Shared → Prop}, Q' () s₁ → wpAny (model P w) A (match b with | true => rule "set.scan.the-table-gave-way" | false => pure ()) Q' E s₁ :=
      fun b s₁ Q' q => by cases b <;> first | exact wpAny_pure q | exact wpAny_rule q
    have pm := layNew_perm t es ((sk P w).hash k) (.str k tk)
    have hf1 := layNew_fits t es ((sk P w).hash k) (.str k tk)
    have hr1 := layNew_ris t es ((sk P w).hash k) (.str k tk) hr
    have hl1 := layNew_led t es ((sk P w).hash k) (.str k tk)
    generalize layNew t es ((sk P w).hash k) (.str k tk) = Z at pm hf1 hr1 hl1 ⊢
    obtain ⟨es1, t1, wasDummy, gave⟩ := Z
    dsimp only at pm hf1 hr1 hl1 ⊢
    rw [Array.toList_push] at pm
    have pc : es1.toList.Perm (((sk P w).hash k, Value.str k tk) :: es.toList) := pm.trans (List.perm_append_singleton _ _)
    have pk : (es1.toList.map kOf).Perm (k :: es.toList.map kOf) := pc.map kOf
    have g1 : ∀ e ∈ es1.toList, GoodT w e := fun e he => by
      rcases List.mem_cons.mp (pc.mem_iff.mp he) with z | z
      · rw [z]; exact ⟨k, tk, rfl, rfl⟩
      · exact g e z
    have nd1 : (es1.toList.map kOf).Nodup := pk.nodup_iff.mpr (List.nodup_cons.mpr ⟨hnk, nd⟩)
    have m1 : ∀ i, (S i || decide (i = k)) = true ↔ i ∈ es1.toList.map kOf := fun i => by
      rw [Bool.or_eq_true, decide_eq_true_eq, hm i, pk.mem_iff, List.mem_cons]
      exact Or.comm
    have hsz : es1.size = n + 1 := by rw [← Array.length_toList, pc.length_eq, List.length_cons, Array.length_toList, hn]
    have hb1 : es1.size < scanBound := by rw [hsz]; exact room
    have hled : w.params.followText "set-order" = true ∨ t1.led = true := hl.imp id fun z => by rw [hl1]; exact z
    have fin : ∀ h', Heap.SameBut a s.heap h' → SetT w h' a (fun j => S j || decide (j = k)) es1.size → Q true { s with heap := h' } := fun h' sb r => by
      have q := hQ h' sb
      rw [hSk] at q
      rw [hsz] at r
      exact q r
    refine wpAny_bind (hgw _ ?_)
    split
    · refine wpAny_bind ?_
      rw [hashByValue_scannable 8 hsc]
      refine wpAny_pure ?_
      refine t_tail ?_ ho hex hd g1 nd1 m1 hb1 ?_ ?_ ?_ ?_
      · intro b s₁ Q' q; cases b <;> first | exact wpAny_pure q | exact wpAny_rule q
      · first | (split <;> first | exact hf1 | exact SetTable.fits_plain_off hf1) | exact hf1
      · first | (split <;> exact hr1) | exact hr1
      · first | (split <;> exact hled) | exact hled
      · intro h' sb r; dsimp only; exact wpAny_pure (fin h' sb r)
    · refine wpAny_bind (wpAny_pure ?_)
      simp only [↓reduceIte]
      refine t_tail ?_ ho hex hd g1 nd1 m1 hb1 hf1 hr1 hled ?_
      · intro b s₁ Q' q; cases b <;> first | exact wpAny_pure q | exact wpAny_rule q
      · intro h' sb r; dsimp only; exact wpAny_pure (fin h' sb r)
/-! ### all of a walk -/
theorem t_new {h : Heap} {ns : List Str} (ho : h.get? a = some { cls := .type "set", dict := none, data := .set #[] 0 (.fresh 0 0 (!w.params.followText "set-order")) }) : SetT w h a (fun j => decide (j ∈ ns.take 0)) 0 :=
  ⟨_, #[], 0, _, ho, ⟨rfl, rfl, rfl⟩, rfl, (fun e he => by simp at he), (by simp), (fun k => by simp), (by decide), (by rfl), rfl, List.Pairwise.nil, by
    show _ ∨ (!w.params.followText "set-order") = true
    cases w.params.followText "set-order"
    · exact .inr rfl
    · exact .inl rfl⟩
theorem t_update {I : Addr} {fp wr : List Addr} {G : Array GenState → Array GenState → Prop} {n : Nat} {Pv : Nat → Value → Prop} {St : Nat → Shared → Prop} {R : Result → Shared → Prop}
    (W : WalksS P w A.in1 I fp wr G n Pv St) (S : Addr) (hSf : S ∉ fp) (ns : List Str) (hn : n = ns.length) (hb : ns.length + 1 < scanBound) (hval : ∀ i v, Pv i v → ∃ k t, ns[i]? = some k ∧ v = .str k t) :
    ∀ (k i : Nat) (s : Shared), n - i = k → i ≤ n → St i s → (∃ c, c ≤ i ∧ SetT w s.heap S (fun j => decide (j ∈ ns.take i)) c) →
      (∀ s' c, Moved (S :: wr) G s s' → c ≤ n → SetT w s'.heap S (fun j => decide (j ∈ ns)) c → R (.ok (.ret .none)) s') →
      codeAny (model P w) A (.builtin "set.update.loop" ⟨[.ref S, .ref I], []⟩) R s := by
  have hSw : S ∉ wr := fun h => hSf (W.sub _ h)
  have hsub : ∀ b ∈ wr, b ∈ S :: wr := fun b hb => List.mem_cons_of_mem _ hb
  intro k
  induction k with
  | zero =>
    intro i s hk' hi hst ⟨c, hc, hS⟩ hR
    have hin : i = n := by omega
    subst hin
    refine codeAny_builtin F.entry_set_update_loop ?_
    rw [Around.under_plainId F.plain_set_update_loop _]
    show wpAny _ A.in1 (pyNext (.ref I) >>= _) _ _ s
    refine wpAny_bind (W.done s _ _ hst fun s' hm => ?_)
    show wpAny _ A.in1 (ret Value.none) _ _ s'
    have e : ns.take i = ns := List.take_of_length_le (by omega)
    rw [e] at hS
    exact wpAny_pure (hR s' c (hm.mono hsub) hc (hS.at fun o e => hm.heap S o hSw e))
  | succ k ih =>
    intro i s hk' hi hst ⟨c, hc, hS⟩ hR
    have hlt : i < n := by omega
    refine codeAny_builtin F.entry_set_update_loop ?_
    rw [Around.under_plainId F.plain_set_update_loop _]
    show wpAny _ A.in1 (pyNext (.ref I) >>= _) _ _ s
    refine wpAny_bind (W.item i s _ _ hlt hst fun v s' hP hst' hm => ?_)
    obtain ⟨z, t, hz, rfl⟩ := hval i v hP
    have hS' : SetT w s'.heap S (fun j => decide (j ∈ ns.take i)) c := hS.at fun o e => hm.heap S o hSw e
    show wpAny _ A.in1 (holding [Value.str z t] (setAdd S (.str z t)) >>= _) _ _ s'
    refine wpAny_bind (wpAny_holding ?_)
    unfold setAdd
    refine wpAny_holding ?_
    refine wpAny_bind ((sk P w).pyHash (k := z) (sk_is _ _ _ _) ?_)
    refine t_add (s := { s' with toks := s'.toks + 1 }) hS' (by omega) fun h' hsb hS2 => ?_
    have hS3 : SetT w h' S (fun j => decide (j ∈ ns.take (i + 1))) (if decide (z ∈ ns.take i) = true then c else c + 1) := hS2.congr fun j => by
      rw [List.take_add_one, hz]
      simp [List.mem_append]
    have hc3 : (if decide (z ∈ ns.take i) = true then c else c + 1) ≤ i + 1 := by
      split <;> omega
    refine wpAny_pure ⟨plainId_quiet F.plain_set_update_loop _, ih (i + 1) _ (by omega) hlt (W.frame _ s' _ _ hst' (Nat.le_succ _) fun b hb o e => ?_) ⟨_, hc3, hS3⟩ fun s'' c2 hm'' hc'' hS'' => ?_⟩
    · rw [hsb.2 b (fun h : b = S => hSf (by rw [← h]; exact hb))]; exact e
    · refine hR s'' c2 (Moved.trans W.gtrans ((hm.mono hsub).then_heap (Nat.le_succ _) fun b o hb e => ?_) hm'') hc'' hS''
      rw [hsb.2 b (fun h : b = S => hb (by rw [h]; exact List.mem_cons_self))]; exact e
theorem strs_at' : ∀ {vs : List Value} {ns : List Str} {i : Nat} {v : Value}, StrsAre vs ns → vs[i]? = some v → ∃ k t, ns[i]? = some k ∧ v = .str k t
  | _, _, i, _, .nil, e => by simp at e
  | _, _, 0, _, .cons x t r, e => by simp at e; exact ⟨x, t, rfl, e.symm⟩
  | _, _, i + 1, v, .cons x t r, e => by
    obtain ⟨k, u, h1, h2⟩ := strs_at' (i := i) (v := v) r (by simpa using e)
    exact ⟨k, u, by simpa using h1, h2⟩
theorem strs_len : ∀ {vs : List Value} {ns : List Str}, StrsAre vs ns → vs.length = ns.length
  | _, _, .nil => rfl
  | _, _, .cons _ _ r => by rw [List.length_cons, List.length_cons, strs_len r]
theorem call_set_list {l : Addr} {items : Array Value} (ns : List Str) {Q : Value → Shared → Prop} (hh : A.handled = none) (hl : s.heap.IsList l items) (hit : StrsAre items.toList ns) (hb : ns.length + 1 < scanBound)
    (h : ∀ (h' : Heap) (tk c : Nat), SetT w h' s.heap.objs.size (fun j => decide (j ∈ ns)) c → c ≤ ns.length → (∀ b o, s.heap.get? b = some o → h'.get? b = some o) → Q (.ref s.heap.objs.size) { s with heap := h', toks := tk }) :
    wpAny (model P w) A (call (.type "set") [.ref l]) Q E s := by
  have hisz : items.size = ns.length := by
    have q := strs_len hit
    rw [Array.length_toList] at q
    exact q
  obtain ⟨c, tl, hmro⟩ := F.called_set.mro
  have hmade := F.called_set.made
  have hsub := F.called_set.sub
  refine wpAny_call (codeAny_of_tree ?_)
  show wpAny _ _ (callAny (.type "set") _) _ _ _
  refine wpAny_pure ⟨Code.quiet_builtin _ (by decide +kernel), codeAny_builtin F.entry_type_call ?_⟩
  rw [Around.under_plain (weight_type_call_type "set" [.ref l] []) rfl]
  have h1 := F.called_set.notType
  have h2 := F.called_set.canCreate
  have hct := F.typeCall_set_1 (.ref l)
  repeat (any_goals (first | assumption | wp_step))
  refine codeAny_mono (code_set_led1 (.ref l) (E := E) (Q₁ := fun obj s₁ => obj = .ref s.heap.objs.size ∧ s₁ = { s with heap := s.heap.push { cls := .type "set", dict := none, data := .set #[] 0 (.fresh 0 0 (!w.params.followText "set-order")) } })  ⟨rfl, rfl⟩) fun r s₁ hr => ?_
  cases r with
  | error e => exact hr
  | ok fl =>
    cases fl with
    | ret obj =>
      obtain ⟨rfl, rfl⟩ := hr
      have hS : (s.heap.push { cls := .type "set", dict := none, data := .set #[] 0 (.fresh 0 0 (!w.params.followText "set-order")) }).get? s.heap.objs.size = some { cls := .type "set", dict := none, data := .set #[] 0 (.fresh 0 0 (!w.params.followText "set-order")) } := Heap.get?_push_size _ rfl
      have hT : Shared.TypeIs { s with heap := s.heap.push { cls := .type "set", dict := none, data := .set #[] 0 (.fresh 0 0 (!w.params.followText "set-order")) } } (.ref s.heap.objs.size) "set" := ⟨_, hS, rfl⟩
      have hli := F.called_set.init.lookup
      have hbi := F.called_set.init.bind (.ref s.heap.objs.size)
      repeat (any_goals (first | assumption | wp_step))
      refine codeAny_mono (codeAny_call_builtin (R := wants (fun r s₂ => r = .none ∧ ∃ h' tk c, s₂ = { s with heap := h', toks := tk } ∧ SetT w h' s.heap.objs.size (fun j => decide (j ∈ ns)) c ∧ c ≤ ns.length ∧
          (∀ b o, s.heap.get? b = some o → h'.get? b = some o)) E) F.called_set.init.plain F.entry_set_init (check_set_init_1 hT ?_)) fun r₂ s₂ hr₂ => ?_
      · obtain ⟨ol, hol, hcl, nl, hdl⟩ := hl
        obtain ⟨ocls, odict, odata, oslots⟩ := ol
        simp only at hcl hdl
        subst hcl; subst hdl
        have hol' : (s.heap.push { cls := .type "set", dict := none, data := .set #[] 0 (.fresh 0 0 (!w.params.followText "set-order")) }).get? l = some { cls := .type "list", dict := odict, data := .seq items nl, slots := oslots } := Heap.get?_push_of_some _ hol
        have hsls := F.sub_list_set
        have hslf := F.sub_list_frozenset
        have hne : (Value.type "list" == Value.type "dict") = false := by decide
        have hl1 : (s.heap.push { cls := .type "set", dict := none, data := .set #[] 0 (.fresh 0 0 (!w.params.followText "set-order")) }).IsList l items := ⟨_, hol', rfl, nl, rfl⟩
        unfold Builtin.«set.__init__» noKeywords Builtin.Frozenset.updateFrom
        generalize hPI : pyIter = PI
        wp_walk
        subst hPI
        refine wpAny_pyIter_list hl1 ?_
        refine wpAny_bind (wpAny_runValue ?_)
        have hlS : l < s.heap.objs.size := Heap.lt_size hol
        have hh3 : A.in1.in1.in1.handled = none := by simp [hh]
        have hneI : l ≠ (s.heap.push { cls := .type "set", dict := none, data := .set #[] 0 (.fresh 0 0 (!w.params.followText "set-order")) }).objs.size := by
          rw [Heap.size_push]; exact Nat.ne_of_lt (Nat.lt_succ_of_lt hlS)
        have hSf : s.heap.objs.size ∉ [(s.heap.push { cls := .type "set", dict := none, data := .set #[] 0 (.fresh 0 0 (!w.params.followText "set-order")) }).objs.size, l] := by
          rw [Heap.size_push]; simp only [List.mem_cons, List.mem_singleton, List.not_mem_nil, or_false, not_or]
          exact ⟨Nat.ne_of_lt (Nat.lt_succ_self _), Nat.ne_of_gt hlS⟩
        have hval : ∀ (i : Nat) (v : Value), items[i]? = some v → ∃ k t, ns[i]? = some k ∧ v = .str k t := fun i v hv => strs_at' hit (by rw [Array.getElem?_toList]; exact hv)
        refine t_update ((Walks.list hh3 _ l hneI items).toS) s.heap.objs.size
          hSf ns hisz hb hval (items.size - 0) 0 _ (by omega) (Nat.zero_le _)
          ⟨⟨_, Heap.get?_push_size _ rfl, rfl, rfl⟩, (hl1.push _)⟩ ?hS0 ?hR
        case hS0 =>
          have hget : ((s.heap.push { cls := .type "set", dict := none, data := .set #[] 0 (.fresh 0 0 (!w.params.followText "set-order")) }).push { cls := .type "list_iterator", data := .fields #[.ref l, .int 0 0] }).get? s.heap.objs.size
              = some { cls := .type "set", dict := none, data := .set #[] 0 (.fresh 0 0 (!w.params.followText "set-order")) } := Heap.get?_push_of_some _ hS
          exact ⟨0, Nat.le_refl 0, t_new hget⟩
        case hR =>
          intro s' c' hm hc' hS'
          obtain ⟨h', g2, d', tk', os'⟩ := s'
          have eg : g2 = s.gens := hm.gens
          have ed : d' = s.drawn := hm.drawn
          have eo : os' = s.os := hm.os
          subst eg; subst ed; subst eo
          show wpAny _ _ _ _ _ _
          refine wpAny_pure ?_
          show wpAny _ _ (ret Value.none) _ _ _
          rw [hisz] at hc'
          refine wpAny_pure ⟨rfl, h', tk', c', rfl, hS', hc', fun b o e => ?_⟩
          have hb0 : b < s.heap.objs.size := Heap.lt_size e
          have hb1 : b ≠ s.heap.objs.size := Nat.ne_of_lt hb0
          have hb2 : b ≠ (s.heap.push { cls := .type "set", dict := none, data := .set #[] 0 (.fresh 0 0 (!w.params.followText "set-order")) }).objs.size := by
            rw [Heap.size_push]; exact Nat.ne_of_lt (Nat.lt_succ_of_lt hb0)
          exact hm.heap b o (by simp only [List.mem_cons, List.mem_singleton, List.not_mem_nil, or_false, not_or]; exact ⟨hb1, hb2⟩) (Heap.get?_push_of_some _ (Heap.get?_push_of_some _ e))
      · cases r₂ with
        | error e => exact hr₂
        | ok fl₂ =>
          cases fl₂ with
          | ret r =>
            obtain ⟨rfl, h', tk, c', rfl, hS', hc', hk'⟩ := hr₂
            repeat (any_goals (first | assumption | wp_step))
            exact h _ _ _ hS' hc' hk'
          | _ => exact hr₂.elim
    | _ => exact hr.elim
theorem call_set_tuple {l : Addr} {items : Array Value} (ns : List Str) {Q : Value → Shared → Prop} (hh : A.handled = none) (hl : s.heap.IsTuple l items) (hit : StrsAre items.toList ns) (hb : ns.length + 1 < scanBound)
    (h : ∀ (h' : Heap) (tk c : Nat), SetT w h' s.heap.objs.size (fun j => decide (j ∈ ns)) c → c ≤ ns.length → (∀ b o, s.heap.get? b = some o → h'.get? b = some o) → Q (.ref s.heap.objs.size) { s with heap := h', toks := tk }) :
    wpAny (model P w) A (call (.type "set") [.ref l]) Q E s := by
  have hisz : items.size = ns.length := by
    have q := strs_len hit
    rw [Array.length_toList] at q
    exact q
  obtain ⟨c, tl, hmro⟩ := F.called_set.mro
  have hmade := F.called_set.made
  have hsub := F.called_set.sub
  refine wpAny_call (codeAny_of_tree ?_)
  show wpAny _ _ (callAny (.type "set") _) _ _ _
  refine wpAny_pure ⟨Code.quiet_builtin _ (by decide +kernel), codeAny_builtin F.entry_type_call ?_⟩
  rw [Around.under_plain (weight_type_call_type "set" [.ref l] []) rfl]
  have h1 := F.called_set.notType
  have h2 := F.called_set.canCreate
  have hct := F.typeCall_set_1 (.ref l)
  repeat (any_goals (first | assumption | wp_step))
  refine codeAny_mono (code_set_led1 (.ref l) (E := E) (Q₁ := fun obj s₁ => obj = .ref s.heap.objs.size ∧ s₁ = { s with heap := s.heap.push { cls := .type "set", dict := none, data := .set #[] 0 (.fresh 0 0 (!w.params.followText "set-order")) } })  ⟨rfl, rfl⟩) fun r s₁ hr => ?_
  cases r with
  | error e => exact hr
  | ok fl =>
    cases fl with
    | ret obj =>
      obtain ⟨rfl, rfl⟩ := hr
      have hS : (s.heap.push { cls := .type "set", dict := none, data := .set #[] 0 (.fresh 0 0 (!w.params.followText "set-order")) }).get? s.heap.objs.size = some { cls := .type "set", dict := none, data := .set #[] 0 (.fresh 0 0 (!w.params.followText "set-order")) } := Heap.get?_push_size _ rfl
      have hT : Shared.TypeIs { s with heap := s.heap.push { cls := .type "set", dict := none, data := .set #[] 0 (.fresh 0 0 (!w.params.followText "set-order")) } } (.ref s.heap.objs.size) "set" := ⟨_, hS, rfl⟩
      have hli := F.called_set.init.lookup
      have hbi := F.called_set.init.bind (.ref s.heap.objs.size)
      repeat (any_goals (first | assumption | wp_step))
      refine codeAny_mono (codeAny_call_builtin (R := wants (fun r s₂ => r = .none ∧ ∃ h' tk c, s₂ = { s with heap := h', toks := tk } ∧ SetT w h' s.heap.objs.size (fun j => decide (j ∈ ns)) c ∧ c ≤ ns.length ∧
          (∀ b o, s.heap.get? b = some o → h'.get? b = some o)) E) F.called_set.init.plain F.entry_set_init (check_set_init_1 hT ?_)) fun r₂ s₂ hr₂ => ?_
      · obtain ⟨ol, hol, hcl, nl, hdl⟩ := hl
        obtain ⟨ocls, odict, odata, oslots⟩ := ol
        simp only at hcl hdl
        subst hcl; subst hdl
        have hol' : (s.heap.push { cls := .type "set", dict := none, data := .set #[] 0 (.fresh 0 0 (!w.params.followText "set-order")) }).get? l = some { cls := .type "tuple", dict := odict, data := .seq items nl, slots := oslots } := Heap.get?_push_of_some _ hol
        have hsls := F.sub_tuple_set
        have hslf := F.sub_tuple_frozenset
        have hne : (Value.type "tuple" == Value.type "dict") = false := by decide
        have hl1 : (s.heap.push { cls := .type "set", dict := none, data := .set #[] 0 (.fresh 0 0 (!w.params.followText "set-order")) }).IsTuple l items := ⟨_, hol', rfl, nl, rfl⟩
        unfold Builtin.«set.__init__» noKeywords Builtin.Frozenset.updateFrom
        generalize hPI : pyIter = PI
        wp_walk
        subst hPI
        refine wpAny_pyIter_tuple hl1 ?_
        refine wpAny_bind (wpAny_runValue ?_)
        have hlS : l < s.heap.objs.size := Heap.lt_size hol
        have hh3 : A.in1.in1.in1.handled = none := by simp [hh]
        have hneI : l ≠ (s.heap.push { cls := .type "set", dict := none, data := .set #[] 0 (.fresh 0 0 (!w.params.followText "set-order")) }).objs.size := by
          rw [Heap.size_push]; exact Nat.ne_of_lt (Nat.lt_succ_of_lt hlS)
        have hSf : s.heap.objs.size ∉ [(s.heap.push { cls := .type "set", dict := none, data := .set #[] 0 (.fresh 0 0 (!w.params.followText "set-order")) }).objs.size, l] := by
          rw [Heap.size_push]; simp only [List.mem_cons, List.mem_singleton, List.not_mem_nil, or_false, not_or]
          exact ⟨Nat.ne_of_lt (Nat.lt_succ_self _), Nat.ne_of_gt hlS⟩
        have hval : ∀ (i : Nat) (v : Value), items[i]? = some v → ∃ k t, ns[i]? = some k ∧ v = .str k t := fun i v hv => strs_at' hit (by rw [Array.getElem?_toList]; exact hv)
        refine t_update ((Walks.tuple hh3 _ l hneI items).toS) s.heap.objs.size
          hSf ns hisz hb hval (items.size - 0) 0 _ (by omega) (Nat.zero_le _)
          ⟨⟨_, Heap.get?_push_size _ rfl, rfl, rfl⟩, (hl1.push _)⟩ ?hS0 ?hR
        case hS0 =>
          have hget : ((s.heap.push { cls := .type "set", dict := none, data := .set #[] 0 (.fresh 0 0 (!w.params.followText "set-order")) }).push { cls := .type "tuple_iterator", data := .fields #[.ref l, .int 0 0] }).get? s.heap.objs.size
              = some { cls := .type "set", dict := none, data := .set #[] 0 (.fresh 0 0 (!w.params.followText "set-order")) } := Heap.get?_push_of_some _ hS
          exact ⟨0, Nat.le_refl 0, t_new hget⟩
        case hR =>
          intro s' c' hm hc' hS'
          obtain ⟨h', g2, d', tk', os'⟩ := s'
          have eg : g2 = s.gens := hm.gens
          have ed : d' = s.drawn := hm.drawn
          have eo : os' = s.os := hm.os
          subst eg; subst ed; subst eo
          show wpAny _ _ _ _ _ _
          refine wpAny_pure ?_
          show wpAny _ _ (ret Value.none) _ _ _
          rw [hisz] at hc'
          refine wpAny_pure ⟨rfl, h', tk', c', rfl, hS', hc', fun b o e => ?_⟩
          have hb0 : b < s.heap.objs.size := Heap.lt_size e
          have hb1 : b ≠ s.heap.objs.size := Nat.ne_of_lt hb0
          have hb2 : b ≠ (s.heap.push { cls := .type "set", dict := none, data := .set #[] 0 (.fresh 0 0 (!w.params.followText "set-order")) }).objs.size := by
            rw [Heap.size_push]; exact Nat.ne_of_lt (Nat.lt_succ_of_lt hb0)
          exact hm.heap b o (by simp only [List.mem_cons, List.mem_singleton, List.not_mem_nil, or_false, not_or]; exact ⟨hb1, hb2⟩) (Heap.get?_push_of_some _ (Heap.get?_push_of_some _ e))
      · cases r₂ with
        | error e => exact hr₂
        | ok fl₂ =>
          cases fl₂ with
          | ret r =>
            obtain ⟨rfl, h', tk, c', rfl, hS', hc', hk'⟩ := hr₂
            repeat (any_goals (first | assumption | wp_step))
            exact h _ _ _ hS' hc' hk'
          | _ => exact hr₂.elim
    | _ => exact hr.elim
/-! ### sorted -/
theorem strs_of' : ∀ (l : List Value), (∀ v ∈ l, ∃ k tk, v = Value.str k tk) → StrsAre l (l.map strOf)
  | [], _ => .nil
  | v :: l, h => by
    obtain ⟨k, tk, rfl⟩ := h v List.mem_cons_self
    exact .cons k tk (strs_of' l fun u hu => h u (List.mem_cons_of_mem _ hu))
theorem sorted_set {Q : Value → Shared → Prop} (R : SetT w s.heap a S n) (hh : A.handled = none) (h64 : n < 64)
    (hQ : ∀ s' p (out : Array Value) (c : Nat) (ns : List Str), (∀ b o, s.heap.get? b = some o → s'.heap.get? b = some o) → s'.gens = s.gens → s'.os = s.os → s.heap.objs.size ≤ p →
      s'.heap.get? p = some (seqObj "list" out c) → StrsAre out.toList ns → ns.Nodup → sortedS ns = true → (∀ k, k ∈ ns ↔ S k = true) → ns.length = n → Q (.ref p) s') :
    wpAny (model P w) A (call (.builtin "sorted") [.ref a]) Q E s := by
  obtain ⟨o, es, ep, t, ho, hex, hd, g, nd, hm, hb, hf, hn, hr, hl⟩ := R
  refine Calls.call_function_entry kind_sorted plain_sorted entry_sorted (args_sorted1 _) ?_
  unfold Builtin.«sorted»
  refine wpAny_bind (m := checkCount "sorted" 1 1 _) (wpAny_pure ?_)
  refine wpAny_bind (collect_set (A := A.in1) hh ⟨o, ho, hex.1, hd⟩ hf hb hr hl fun s1 vs k1 hz g1 o1 pm => ?_)
  have hvl : vs.length = n := by rw [pm.length_eq, List.length_map, Array.length_toList]; exact hn
  have hS : StrsAre vs (vs.map strOf) := strs_of' vs fun v hv => by
    obtain ⟨e, he, q⟩ := List.mem_map.mp (pm.mem_iff.mp hv)
    obtain ⟨k, tk, h1, _⟩ := g e he
    exact ⟨k, tk, by rw [← q]; exact h1⟩
  have pk : (vs.map strOf).Perm (es.toList.map kOf) := by
    have q := pm.map strOf
    rw [List.map_map] at q
    refine q.trans (List.Perm.of_eq (List.map_congr_left fun e he => ?_))
    obtain ⟨k, tk, h1, _⟩ := g e he
    unfold kOf
    show strOf e.2 = _
    rw [h1]
    rfl
  refine wpAny_bind (wpAny_newList ?_ (by rw [hvl, sizeLine_eq]; omega))
  have hoL : (s1.heap.push (seqObj "list" vs.toArray 0)).get? s1.heap.objs.size = some (seqObj "list" vs.toArray 0) := Heap.get?_push_size _ rfl
  refine wpAny_bind (wpAny_holding (wpAny_call_entry slot_list_sort ⟨_, hoL, rfl⟩ entry_list_sort
    (list_sort_treeK strKind_oneLt hoL hS.keysOf (fun v₁ v₂ rest e => keyKind_strs (by rw [← e]; exact hS)) (by rw [hvl]; exact h64) fun st' hp hs => ⟨_, rfl, ?_⟩) (args_list_sort _)))
  obtain ⟨ns, a1, a2, a3⟩ := sorted_out_str hS hp hs
  obtain ⟨c, hc⟩ := sortedHeap_at (vs := vs) (out := (arrOf st').map (·.2)) hoL
  have pn : ns.Perm (es.toList.map kOf) := a2.trans pk
  refine wpAny_pure ⟨_, rfl, hQ _ s1.heap.objs.size _ c ns (fun b u e => ?_) g1 o1 hz hc a1 (pn.nodup_iff.mpr nd) a3 (fun k => by rw [pn.mem_iff, ← hm k]) ?_⟩
  · have q := k1 b u e
    have hlt := Heap.lt_size q
    show (sortedHeap (s1.heap.push (seqObj "list" vs.toArray 0)) s1.heap.objs.size vs _).get? b = some u
    rw [sortedHeap_old (Nat.ne_of_lt hlt) (by rw [size_push']; exact Nat.lt_succ_of_lt hlt)]
    exact Heap.get?_push_of_some _ q
  · rw [pn.length_eq, List.length_map, Array.length_toList]; exact hn
end
/-! ### as tracked things -/
def SetTO (w : World) (a : Addr) (S : Str → Bool) (n : Nat) : HO := .ext fun h => SetT w h a S n
section
variable {X : Cx}
theorem setTO_new {w : World} {P : Program} {H : Hp} {h : Heap} {a : Addr} {S : Str → Bool} {n : Nat} (R : SetT w h a S n) : ObjOk P w H h a (SetTO w a S n) := by
  have ⟨o, _, _, _, ho, _⟩ := R
  exact ⟨R, ⟨o, ho⟩, fun h1 h2 p k => SetT.at p k⟩
/-- set(xs) of a list or a tuple of texts -/
def rSetTx (K : PySem.W.Frag) (w : World) : List V → Hp → VK → Prop := fun xs H Q => ∃ (l : Addr) (ns : List Str), xs = [V.ref l] ∧ (SqL K H l (ns.map V.str) ∨ SqT K H l (ns.map V.str)) ∧ ns.length < 64 ∧
  ∀ a c, H a = none → c ≤ ns.length → Q (.ref a) (upd H a (SetTO w a (fun j => decide (j ∈ ns)) c))
theorem cr_setTx (hc : X.calm = true) : CallR X (.type "set") (rSetTx X.K X.w) := by
  intro pins s σ H xs us Q I r h
  obtain ⟨l, ns, rfl, hl, hf, q⟩ := h
  rw [Vals.ref1 r]
  have hn : H s.heap.objs.size = none := I.hok.fresh (Nat.le_refl _)
  have hb : ns.length + 1 < scanBound := by unfold scanBound; omega
  have fin : ∀ (h' : Heap) (tk c : Nat), SetT X.w h' s.heap.objs.size (fun j => decide (j ∈ ns)) c → c ≤ ns.length → (∀ b o, s.heap.get? b = some o → h'.get? b = some o) → EP X pins σ Q (.ref s.heap.objs.size) { s with heap := h', toks := tk } :=
    fun h' tk c R hc k => ⟨.ref s.heap.objs.size, upd H s.heap.objs.size (SetTO X.w s.heap.objs.size (fun j => decide (j ∈ ns)) c), I.laid (t' := tk) k (Nat.le_refl _) (setTO_new R), rfl, q _ c hn hc⟩
  rcases hl with hl | hl
  · obtain ⟨its, rv, pl, hz⟩ := I.list hl
    exact call_set_list ns (I.ok.hd hc) pl.isList (by simpa using rv.strs) hb fin
  · obtain ⟨its, rv, pl, hz⟩ := I.tuple hl
    obtain ⟨o, ho, hc', n', hd'⟩ := pl
    exact call_set_tuple ns (I.ok.hd hc) ⟨o, ho, hc', n', hd'⟩ (by simpa using rv.strs) hb fin
/-- sorted(set) -/
def rSortedTx (w : World) : List V → Hp → VK → Prop := fun vs H Q => ∃ (a : Addr) (S : Str → Bool) (n : Nat), vs = [V.ref a] ∧ H a = some (SetTO w a S n) ∧ n < 64 ∧
  ∀ (ns : List Str) (p : Addr), ns.Nodup → sortedS ns = true → (∀ k, k ∈ ns ↔ S k = true) → ns.length = n → H p = none → Q (.ref p) (upd H p (.lst (ns.map V.str)))
theorem cr_sortedTx (hc : X.calm = true) : CallR X (.builtin "sorted") (rSortedTx X.w) := by
  intro pins s σ H vs us Q I r h
  obtain ⟨a, S, n, rfl, ha, h64, q⟩ := h
  have R : SetT X.w s.heap a S n := (I.hok a _ ha).1
  rw [Vals.ref1 r]
  refine sorted_set R (I.ok.hd hc) h64 fun s' p out c ns k g o hp hg hi hnd hs hm hl => ?_
  have hlen : (ns.map V.str).length ≤ sizeLine := by rw [List.length_map, hl, sizeLine_eq]; omega
  have hn : H p = none := I.hok.fresh hp
  have J : Inv X pins σ (upd H p (.lst (ns.map V.str))) { s with heap := s'.heap, gens := s'.gens, drawn := s'.drawn, toks := s'.toks } :=
    I.call (ch := []) (Un.laid k hp hn) (I.hok.laid k hp ⟨hlen, out.toList, c, vals_of_strs hi, hg⟩) (by rw [g]; exact I.bare) (fun _ z => nomatch z)
  have e : s' = { s with heap := s'.heap, gens := s'.gens, drawn := s'.drawn, toks := s'.toks } := by
    cases s'
    cases s
    cases o
    rfl
  rw [e]
  exact ⟨.ref p, _, J, rfl, q ns p hnd hs hm hl hn⟩
end
end QS
/-! texts in their order -/
namespace Y
open PySem PySem.Spec PyProof.Rows
abbrev ltS (a b : Str) : Prop := a.cps.toList < b.cps.toList
abbrev leS (a b : Str) : Prop := ¬ ltS b a
theorem ltS_irr (a : Str) : ¬ ltS a a := List.lt_irrefl _
theorem ltS_trans {a b c : Str} (h1 : ltS a b) (h2 : ltS b c) : ltS a c := List.lt_trans h1 h2
theorem leS_anti {a b : Str} (h1 : leS a b) (h2 : leS b a) : a = b := by
  have e : a.cps.toList = b.cps.toList := List.le_antisymm (List.not_lt.mp h1) (List.not_lt.mp h2)
  cases a
  cases b
  exact congrArg Str.mk (Array.toList_inj.mp e)
theorem leS_trans {a b c : Str} (h1 : leS a b) (h2 : leS b c) : leS a c := fun h => by
  rcases Classical.em (ltS a b) with q | q
  · exact h2 (ltS_trans h q)
  · rw [leS_anti h1 q] at h
    exact h2 h
theorem ltS_tri (a b : Str) : ltS a b ∨ a = b ∨ ltS b a := by
  rcases Classical.em (ltS a b) with h | h
  · exact .inl h
  · rcases Classical.em (ltS b a) with h2 | h2
    · exact .inr (.inr h2)
    · exact .inr (.inl (leS_anti h2 h))
theorem rising_all : ∀ (l : List Str) (p : Str), risingS p l = true → (∀ x ∈ l, leS p x) ∧ l.Pairwise leS
  | [], p, _ => ⟨(fun _ h => nomatch h), .nil⟩
  | x :: r, p, h => by
    have h' : (!ltCps x.cps.toList p.cps.toList && risingS x r) = true := h
    rw [Bool.and_eq_true, ltCps_eq] at h'
    obtain ⟨h1, h2⟩ := h'
    have px : leS p x := by simpa using h1
    obtain ⟨h3, h4⟩ := rising_all r x h2
    refine ⟨fun y hy => ?_, List.pairwise_cons.mpr ⟨h3, h4⟩⟩
    rcases List.mem_cons.mp hy with rfl | hy
    · exact px
    · exact leS_trans px (h3 y hy)
theorem sorted_pw {l : List Str} (h : sortedS l = true) : l.Pairwise leS := by
  cases l with
  | nil => exact .nil
  | cons x r =>
    obtain ⟨h1, h2⟩ := rising_all r x h
    exact List.pairwise_cons.mpr ⟨h1, h2⟩
theorem sorted_lt {l : List Str} (h : sortedS l = true) (nd : l.Nodup) : l.Pairwise ltS := by
  refine List.Pairwise.imp₂ (fun a b h1 h2 => ?_) (sorted_pw h) nd
  rcases ltS_tri a b with q | q | q
  · exact q
  · exact absurd q h2
  · exact absurd q h1
theorem uniqU : ∀ {xs ys : List Str}, xs.Pairwise ltS → ys.Pairwise ltS → (∀ k, k ∈ xs ↔ k ∈ ys) → xs = ys
  | [], [], _, _, _ => rfl
  | [], y :: ys, _, _, h => absurd ((h y).mpr List.mem_cons_self) (by simp)
  | x :: xs, [], _, _, h => absurd ((h x).mp List.mem_cons_self) (by simp)
  | x :: xs, y :: ys, hx, hy, h => by
    obtain ⟨hx1, hx2⟩ := List.pairwise_cons.mp hx
    obtain ⟨hy1, hy2⟩ := List.pairwise_cons.mp hy
    have e : x = y := by
      rcases List.mem_cons.mp ((h x).mp List.mem_cons_self) with q | q
      · exact q
      · rcases List.mem_cons.mp ((h y).mpr List.mem_cons_self) with q2 | q2
        · exact q2.symm
        · exact absurd (ltS_trans (hy1 x q) (hx1 y q2)) (ltS_irr _)
    subst e
    congr 1
    refine uniqU hx2 hy2 fun k => ⟨fun hk => ?_, fun hk => ?_⟩
    · rcases List.mem_cons.mp ((h k).mp (List.mem_cons_of_mem _ hk)) with q | q
      · subst q; exact absurd (hx1 k hk) (ltS_irr _)
      · exact q
    · rcases List.mem_cons.mp ((h k).mpr (List.mem_cons_of_mem _ hk)) with q | q
      · subst q; exact absurd (hy1 k hk) (ltS_irr _)
      · exact q
def insU (x : Str) : List Str → List Str
  | [] => [x]
  | y :: r => if ltS x y then x :: y :: r else if ltS y x then y :: insU x r else y :: r
/-- the texts of a list, each once, rising -/
def srtU (xs : List Str) : List Str := xs.foldr insU []
theorem insU_mem (x k : Str) : ∀ l : List Str, k ∈ insU x l ↔ k = x ∨ k ∈ l
  | [] => by simp [insU]
  | y :: r => by
    unfold insU
    split
    · simp
    · split
      · simp [insU_mem x k r]
        constructor
        · rintro (q | q | q)
          · exact .inr (.inl q)
          · exact .inl q
          · exact .inr (.inr q)
        · rintro (q | q | q)
          · exact .inr (.inl q)
          · exact .inl q
          · exact .inr (.inr q)
      · rename_i h1 h2
        have e : x = y := leS_anti h2 h1
        subst e
        simp
theorem insU_pw (x : Str) : ∀ l : List Str, l.Pairwise ltS → (insU x l).Pairwise ltS
  | [], _ => List.pairwise_cons.mpr ⟨fun _ h => (by cases h), .nil⟩
  | y :: r, h => by
    obtain ⟨h1, h2⟩ := List.pairwise_cons.mp h
    unfold insU
    split
    · rename_i q
      refine List.pairwise_cons.mpr ⟨fun z hz => ?_, h⟩
      rcases List.mem_cons.mp hz with rfl | hz
      · exact q
      · exact ltS_trans q (h1 z hz)
    · split
      · rename_i q
        refine List.pairwise_cons.mpr ⟨fun z hz => ?_, insU_pw x r h2⟩
        rcases (insU_mem x z r).mp hz with rfl | hz
        · exact q
        · exact h1 z hz
      · exact h
theorem srtU_mem (k : Str) : ∀ xs : List Str, k ∈ srtU xs ↔ k ∈ xs
  | [] => Iff.rfl
  | x :: xs => by
    show k ∈ insU x (srtU xs) ↔ _
    rw [insU_mem, srtU_mem k xs, List.mem_cons]
theorem srtU_pw : ∀ xs : List Str, (srtU xs).Pairwise ltS
  | [] => .nil
  | x :: xs => insU_pw x _ (srtU_pw xs)
theorem srtU_of {xs ys : List Str} (nd : ys.Nodup) (hs : sortedS ys = true) (h : ∀ k, k ∈ ys ↔ k ∈ xs) : ys = srtU xs :=
  uniqU (sorted_lt hs nd) (srtU_pw xs) fun k => (h k).trans (srtU_mem k xs).symm
end Y
namespace Y
open PySem L2
open PySem.Spec PyProof.Rows
open Evl (Ex)
/-! ### sorted(set(xs)), sorted(xs) of texts -/
def texts (us : List W) (k : List Str → Prop) : Prop := ∃ ns : List Str, us = ns.map .str ∧ ns.length < 64 ∧ k ns
/-- sorted(set(d)) -/
def lSortSet (d : DE) : DL := fun st k x => d st (fun r st1 => match r.val st1 with
  | some (.lst us) => texts us fun ns => k ((srtU ns).map .str) st1
  | some (.tup us) => texts us fun ns => k ((srtU ns).map .str) st1
  | _ => False) x
section
variable {K : PySem.W.Frag} {Z : Zx} {H : Hp}
theorem reps_txt : ∀ ns : List Str, Reps K Z H (ns.map V.str) (ns.map W.str)
  | [] => .nil
  | n :: ns => .cons .str (reps_txt ns)
end
section
variable {X : Cx} {Z : Zx} {E : XS} {e : Expr} {da : DE} {p1 p2 q pos : Pos}
theorem pl_sortSet (hc : X.calm = true) (hg : Gl X "sorted") (hm : X.mg "sorted" = none) (hg2 : Gl X "set") (hm2 : X.mg "set" = none) (he : PD X Z E e da)
    (hb : bootBuiltins "sorted" = some (.builtin "sorted")) (hb2 : bootBuiltins "set" = some (.type "set"))
    (hs : starEach [e] X.env = (false, eval e X.env) :: starEach [] X.env := by rfl) (hpl : (backTo q (starEach [] X.env)).any (·.1) = false := by rfl)
    (hs2 : starEach [.Call (.Name "set" p2) [e] [] q] X.env = (false, eval (.Call (.Name "set" p2) [e] [] q) X.env) :: starEach [] X.env := by rfl) (hpl2 : (backTo pos (starEach [] X.env)).any (·.1) = false := by rfl) :
    PLD X Z E (.Call (.Name "sorted" p1) [.Call (.Name "set" p2) [e] [] q] [] pos) (lSortSet da) := by
  have h1 := pe_callTy (p := p2) (pos := q) (QS.cr_setTx hc) hg2 hm2 hb2 (pa_cons he pa_nil hs) (by decide) (by decide) hs hpl
  have h2 := pe_callB (p := p1) (pos := pos) (QS.cr_sortedTx hc) hg hm hb (pa_cons h1 pa_nil hs2) (by decide) (by decide) hs2 hpl2
  refine pe_weak h2 fun σ H Q q => ?_
  obtain ⟨H0, F, G, pv, st, kk, kx, wd, ss, hd, hk, hx⟩ := q
  refine tE_seq wd ss hx hd fun H1 G1 H1' st1 v r e1 wd1 ss1 rr k1 => ?_
  have fin : ∀ (l : Addr) (ns : List Str), v = V.ref l → (SqL X.K H1' l (ns.map V.str) ∨ SqT X.K H1' l (ns.map V.str)) → ns.length < 64 → kk ((srtU ns).map .str) st1 →
      QS.rSetTx X.K X.w [v] H1' fun x H2 => QS.rSortedTx X.w [x] H2 Q := fun l ns ev hs hl k2 => by
    subst ev
    refine ⟨l, ns, rfl, hs, hl, fun a c hn hc => ?_⟩
    refine ⟨a, _, c, rfl, upd_same, by omega, fun ys p nd so hm _ hp => ?_⟩
    have ey : ys = srtU ns := srtU_of nd so fun k => by rw [hm k]; exact decide_eq_true_iff
    subst ey
    have g := Gr.one (o := QS.SetTO X.w a (fun j => decide (j ∈ ns)) c) wd1.ex hn
    exact hk _ _ _ _ _ _ _ (e1.trans g.e0) ((wd1.grow g).hand hp) ((wd1.grow g).free hp).2.1 (ss1.mono g.e0) (reps_txt _) k2
  have k1 : (match r.val st1 with
    | some (W.lst us) => texts us fun ns => kk ((srtU ns).map .str) st1
    | some (W.tup us) => texts us fun ns => kk ((srtU ns).map .str) st1
    | _ => False) := k1
  cases q1 : r.val st1 with
  | none => rw [q1] at k1; exact k1.elim
  | some w =>
    rw [q1] at k1
    cases w with
    | lst us =>
      obtain ⟨ns, rfl, hl, k2⟩ := k1
      obtain ⟨p, xs, rfl, h3, rs⟩ := (rr.peek ss1 wd1 q1).lst_of wd1.ex
      exact fin p ns rfl (.inl (.of (by rw [← rs.strs_of]; exact h3))) hl k2
    | tup us =>
      obtain ⟨ns, rfl, hl, k2⟩ := k1
      obtain ⟨p, xs, rfl, h3, rs⟩ := (rr.peek ss1 wd1 q1).tup_of wd1.ex
      exact fin p ns rfl (.inr (by rw [← rs.strs_of]; exact h3)) hl k2
    | _ => exact k1.elim
end
end Y
/-! sorted(xs), xs a list of pairs of a text and a number, the texts unlike -/
namespace QP
open PySem PySem.Spec PyProof.Rows L2
/-- v is the pair (x, i) -/
def PairT (h : Heap) (v : Value) (x : Str) (i : Int) : Prop := ∃ a t u, v = .ref a ∧ IsTup h a #[.str x t, .int i u]
theorem PairT.keeps {h h' : Heap} {v : Value} {x : Str} {i : Int} (p : PairT h v x i) (k : ∀ b o, h.get? b = some o → o.cls = .type "tuple" → h'.get? b = some o) : PairT h' v x i := by
  obtain ⟨a, t, u, e, ⟨o, ho, hc, hd⟩⟩ := p
  exact ⟨a, t, u, e, ⟨o, k _ _ ho hc, hc, hd⟩⟩
/-- the text of a pair, read off the heap -/
def txAt (h : Heap) (v : Value) : Str := match v with
  | .ref a => match h.get? a with
    | some o => match o.data with
      | .seq xs _ => (match xs.toList.head? with
        | some (.str x _) => x
        | _ => Str.empty)
      | _ => Str.empty
    | none => Str.empty
  | _ => Str.empty
theorem PairT.tx {h : Heap} {v : Value} {x : Str} {i : Int} (p : PairT h v x i) : txAt h v = x := by
  obtain ⟨a, t, u, rfl, ⟨o, ho, hc, n, hd⟩⟩ := p
  simp only [txAt, ho, hd]
  rfl
section
variable {prog : Program} {w : World} {A : Around} {E : Value → Shared → Prop} {s : Shared}
end
/-! ### ranks -/
/-! ### as a rule -/
section
variable {X : Cx}
end
end QP
namespace Y
open PySem L2
open PySem.Spec PyProof.Rows
open Evl (Ex)
/-! ### sorted(..) of a list of pairs, unlike texts ahead -/
section
variable {K : PySem.W.Frag} {Z : Zx} {H H0 : Hp}
end
end Y
namespace Y
open PySem L2
open PySem.Spec PyProof.Rows
open Evl (Ex)

/-! ### dicts locked for good -/
inductive Lks (P : Hp → Prop) : Hp → Prop
  | done {H} : P H → Lks P H
  | lock {H d u} : H d = some u → Mut (some u) → (∀ od, Lks P (upd H d (.frz od u))) → Lks P H
theorem Lks.mono {P Q : Hp → Prop} {H : Hp} (h : Lks P H) (f : ∀ H, P H → Q H) : Lks Q H := by
  induction h with
  | done p => exact .done (f _ p)
  | lock e m _ ih => exact .lock e m ih
theorem Lks.bind {P Q : Hp → Prop} {H : Hp} (h : Lks P H) (f : ∀ H, P H → Lks Q H) : Lks Q H := by
  induction h with
  | done p => exact f _ p
  | lock e m _ ih => exact .lock e m ih
theorem Lks.run {X : Cx} {pins : List (Addr × Obj)} {σ : L2.St} {s : Shared} {P : Hp → Prop} {H : Hp} (h : Lks P H) : Inv X pins σ H s → ∃ H', Inv X pins σ H' s ∧ P H' := by
  induction h with
  | done p => exact fun I => ⟨_, I, p⟩
  | lock e m _ ih =>
    intro I
    obtain ⟨od, I1⟩ := I.lock e m
    exact ih od I1
theorem pe_lks {X : Cx} {e : Expr} {t : TE} (h : PE X e t) : PE X e (fun σ H Q => t σ H fun v H1 => Lks (Q v) H1) := by
  refine ⟨fun pins s σ H Q I hw => ?_⟩
  refine thn (h.run pins s σ H _ I hw) fun v s1 ⟨x, H1, I1, r, q⟩ => ?_
  obtain ⟨H2, I2, q2⟩ := q.run I1
  exact ⟨x, H2, I2, r, q2⟩

/-! ### an own thing with its own parts, frozen -/
def T.lk1 : T → Option W
  | .fz w => some w
  | .lst ws => some (.lst ws)
  | .dK ws => some (.dF ws)
  | _ => none
def T.lks : List T → Option (List W)
  | [] => some []
  | t :: ts => match t.lk1, T.lks ts with
    | some w, some ws => some (w :: ws)
    | _, _ => none
def T.lk : T → Option W
  | .ins c ts => if ts.length = (fldN c).length then (T.lks ts).map (.ins c) else none
  | t => t.lk1
section
variable {K : PySem.W.Frag} {Z : Zx} {H0 H F : Hp} {A B Gv : Fp}
theorem lk1_ok {v : V} {t : T} {w : W} (wd : Wd H0 F (A ++ Gv ++ B) H) (r : RepT K Z H0 v t Gv) (e : t.lk1 = some w) : Lks (fun H' => ∃ H0', Ex H0 H0' ∧ Wd H0' F (A ++ B) H' ∧ Rep K Z H0' v w) H := by
  cases r with
  | fz r =>
    cases e
    rw [List.append_nil] at wd
    exact .done ⟨H0, Ex.refl _, wd, r⟩
  | lst r =>
    cases e
    obtain ⟨w2, e2⟩ := wd.own_fz
    exact .done ⟨_, e2, w2, .lst upd_same (r.mono e2)⟩
  | @dK p kvs ws r =>
    cases e
    have hp : H p = some (.dK kvs) := wd.ow (p, _) (by simp)
    refine .lock hp True.intro fun od => ?_
    have w1 : Wd H0 F (A ++ [(p, .frz od (.dK kvs))] ++ B) (upd H p (.frz od (.dK kvs))) := wd.write
    obtain ⟨w2, e2⟩ := w1.own_fz
    exact .done ⟨_, e2, w2, .dF (o := od) upd_same (r.mono e2)⟩
  | dT r => cases e
  | ins => cases e
  | wo => cases e
  | dR => cases e
  | dd => cases e
theorem lks_ok : ∀ {vs : List V} {ts : List T} {Gf A B : Fp} {ws : List W} {H0 H : Hp}, RepTs K Z H0 vs ts Gf → Wd H0 F (A ++ Gf ++ B) H → T.lks ts = some ws → Lks (fun H' => ∃ H0', Ex H0 H0' ∧ Wd H0' F (A ++ B) H' ∧ Reps K Z H0' vs ws) H
  | _, _, _, A, B, ws, H0, H, .nil, wd, e => by
    cases e
    rw [List.append_nil] at wd
    exact .done ⟨H0, Ex.refl _, wd, .nil⟩
  | _, _, _, A, B, ws, H0, H, .cons (t := t) (ts := ts) (G1 := G1) (G2 := G2) r rs, wd, e => by
    unfold T.lks at e
    cases q1 : t.lk1 with
    | none => rw [q1] at e; cases e
    | some w =>
      cases q2 : T.lks ts with
      | none => rw [q1, q2] at e; cases e
      | some us =>
        rw [q1, q2] at e
        cases e
        have wd1 : Wd H0 F (A ++ G1 ++ (G2 ++ B)) H := by simpa only [List.append_assoc] using wd
        refine (lk1_ok wd1 r q1).bind fun H' ⟨H1, e1, wd2, r1⟩ => ?_
        have wd3 : Wd H1 F (A ++ G2 ++ B) H' := by simpa only [List.append_assoc] using wd2
        refine (lks_ok (rs.mono e1) wd3 q2).mono fun H'' ⟨H2, e2, wd4, r2⟩ => ?_
        exact ⟨H2, e1.trans e2, wd4, .cons (r1.mono e2) r2⟩
theorem lk_ok {v : V} {t : T} {w : W} (wd : Wd H0 F (A ++ Gv ++ B) H) (r : RepT K Z H0 v t Gv) (e : t.lk = some w) : Lks (fun H' => ∃ H0', Ex H0 H0' ∧ Wd H0' F (A ++ B) H' ∧ Rep K Z H0' v w) H := by
  cases t with
  | ins c ts =>
    replace e : (if ts.length = (fldN c).length then (T.lks ts).map (W.ins c) else none) = some w := e
    by_cases hl : ts.length = (fldN c).length
    · rw [if_pos hl] at e
      obtain ⟨ws, h1, rfl⟩ := Option.map_eq_some_iff.mp e
      cases r with
      | @ins p _ dx fs _ G1 z n r =>
        have wd1 : Wd H0 F ((A ++ [(p, .ins (Z.cls c) dx fs)]) ++ G1 ++ B) H := by simpa only [List.append_assoc, List.cons_append, List.nil_append] using wd
        refine (lks_ok r wd1 h1).mono fun H' ⟨H1, e1, wd2, r1⟩ => ?_
        obtain ⟨w3, e3⟩ := wd2.own_fz
        refine ⟨_, e1.trans e3, w3, .ins z upd_same ?_ (r1.mono e3)⟩
        rw [n, hl, List.take_length]
    · rw [if_neg hl] at e; cases e
  | fz _ => exact lk1_ok wd r e
  | lst _ => exact lk1_ok wd r e
  | dK _ => exact lk1_ok wd r e
  | dT _ => cases e
  | wo _ _ => cases e
  | dR _ => cases e
  | dd _ _ => cases e
end
def dLk (d : DW) : DE := fun st k x => d st (fun t st1 => match t.lk with
  | some w => k (.w w) st1
  | none => False) x
section
variable {X : Cx} {Z : Zx} {E : XS} {e : Expr} {dw : DW} {pos : Pos}
theorem pd_lk (h : PVD X Z E e dw) : PD X Z E e (dLk dw) := by
  refine pe_weak (pe_lks h) fun σ H Q q => ?_
  obtain ⟨H0, F, G, pv, st, k, kx, wd, ss, hd, hk, hx⟩ := q
  refine tW_seq wd ss hx hd fun H1 Gv G1 H1' st1 v t e1 wd1 rt ss1 k1 => ?_
  cases q1 : t.lk with
  | none => rw [q1] at k1; exact k1.elim
  | some w =>
    rw [q1] at k1
    refine (lk_ok (A := []) (B := G1) wd1 rt q1).mono fun H2' ⟨H2, e2, wd2, r2⟩ => ?_
    exact hk _ _ _ _ _ _ (e1.trans e2) wd2 (ss1.mono e2) (.w r2) k1
end

/-! ### for .. in xs or [] -/
theorem pid_weak {X : Cx} {Z : Zx} {E : XS} {tg e : Expr} {d d' : DI} (h : PID X Z E tg e d) (w : ∀ st k x, d' st k x → d st k x) : PID X Z E tg e d' := by
  refine pi_weak h fun σ H Q q => ?_
  obtain ⟨H0, F, G, pv, st, k, kx, wd, ss, hd, hk, hx⟩ := q
  exact ⟨H0, F, G, pv, st, k, kx, wd, ss, w _ _ _ hd, hk, hx⟩
def iOrN (i : Nat) : DI := fun st k _ => match at' st i with
  | .lo (.fz (.lst us)) => k us st
  | .lo (.fz .non) => k [] st
  | _ => False
theorem orN_ok (i : Nat) (st : S) (k : List W → S → Prop) (x : KX) (h : iOrN i st k x) : iSq (dOrX (dVar i) (dFz (lDisp aNil))) st k x := by
  unfold iOrN at h
  unfold iSq dOrX dVar
  cases q : at' st i with
  | lo t =>
    rw [q] at h
    cases t with
    | fz w =>
      cases w with
      | lst us =>
        cases us with
        | nil => exact ⟨(fun z => nomatch z), fun _ => ⟨Nat.zero_le _, h⟩⟩
        | cons u us => exact ⟨fun _ => h, (fun z => nomatch z)⟩
      | non => exact ⟨(fun z => nomatch z), fun _ => ⟨Nat.zero_le _, h⟩⟩
      | _ => exact h.elim
    | _ => exact h.elim
  | _ => rw [q] at h; exact h.elim
theorem pid_orN {X : Cx} {Z : Zx} {E : XS} {tg e : Expr} {i : Nat} (h : PID X Z E tg e (iSq (dOrX (dVar i) (dFz (lDisp aNil))))) : PID X Z E tg e (iOrN i) := pid_weak h (orN_ok i)

/-! ### {} -/
def dNewK : DDc := fun st k _ => k [] st
theorem pdc_new {X : Cx} {Z : Zx} {E : XS} {pos : Pos} : PDDc X Z E (.Dict [] [] pos) dNewK := by
  refine pe_weak pe_dnewK fun σ H Q q => ?_
  obtain ⟨H0, F, G, pv, st, k, kx, wd, ss, hd, hk, hx⟩ := q
  intro p hp
  exact hk _ _ _ _ _ _ _ (Ex.refl _) (wd.hand hp) (wd.free hp).2.1 ss .nil hd
/-! ### the keys of a dict -/
def keyW : Key → W
  | .inl i => .int i
  | .inr s => .str s
theorem rep_kV {K : PySem.W.Frag} {Z : Zx} {H : Hp} (k : Key) : Rep K Z H (kV k) (keyW k) := by
  cases k with
  | inl i => exact .int
  | inr s => exact .str
theorem repK_get {K : PySem.W.Frag} {Z : Zx} {H : Hp} : ∀ {kvs ws} {i : Nat} {k : Key} {w : W}, RepK K Z H kvs ws → ws[i]? = some (k, w) → ∃ v, kvs[i]? = some (k, v) ∧ Rep K Z H v w
  | _, _, i, _, _, .nil, e => by simp at e
  | _, _, 0, _, _, .cons h r, e => by simp at e; obtain ⟨rfl, rfl⟩ := e; exact ⟨_, rfl, h⟩
  | _, _, i + 1, k, w, .cons h r, e => by
    obtain ⟨v, h1, h2⟩ := repK_get (i := i) (k := k) (w := w) r (by simpa using e)
    exact ⟨v, by simpa using h1, h2⟩
theorem RepK.keys {K : PySem.W.Frag} {Z : Zx} {H0 H : Hp} : ∀ {kvs ws}, RepK K Z H kvs ws → Reps K Z H0 (kvs.map fun kv => kV kv.1) (ws.map fun kv => keyW kv.1)
  | _, _, .nil => .nil
  | _, _, .cons h r => .cons (rep_kV _) (RepK.keys r)
/-- for k in d, d locked -/
def iKey (d : DE) : DI := fun st k x => d st (fun r st1 => match r with
  | .w (.dF kvs) => k (kvs.map fun kv => keyW kv.1) st1
  | _ => False) x
theorem it_keys {K : PySem.W.Frag} {Z : Zx} {H0 : Hp} {d : Addr} {o : Obj} {kvs ws} (h : H0 d = some (.frz o (.dK kvs))) (r : RepK K Z H0 kvs ws) : ItOk K Z H0 (Itk d o kvs) (ws.map fun kv => keyW kv.1) := fun i H Hc e e' => by
  have hs := e' _ _ (e _ _ h)
  refine ⟨fun hl => ⟨hs, by rw [r.length]; simpa using hl⟩, fun w hw => ?_⟩
  rw [List.getElem?_map] at hw
  obtain ⟨⟨k, u⟩, h1, rfl⟩ := Option.map_eq_some_iff.mp hw
  obtain ⟨v, h2, h3⟩ := repK_get r h1
  have hl : i < kvs.length := by
    by_cases z : i < kvs.length
    · exact z
    · rw [List.getElem?_eq_none (by omega)] at h2; cases h2
  refine ⟨⟨hs, hl⟩, fun x H' y => ?_⟩
  obtain ⟨rfl, k', v', h4, rfl⟩ := y
  rw [h2] at h4; cases h4
  exact ⟨Hc, Gr.refl e', rep_kV _⟩
theorem pid_key {X : Cx} {Z : Zx} {E : XS} {tg e : Expr} {da : DE} (h : PD X Z E e da) : PID X Z E tg e (iKey da) := by
  refine pi_weak (pi_keys h) fun σ H Q q => ?_
  obtain ⟨H0, F, G, pv, st, k, kx, wd, ss, hd, hk, hx⟩ := q
  refine tE_seq wd ss hx hd fun H1 G1 H1' st1 v r e1 wd1 ss1 rr k1 => ?_
  cases rr with
  | pk _ => exact k1.elim
  | w rv => cases rv with
    | dF hs rs => exact ⟨_, _, rfl, .inl ⟨_, wd1.ex _ _ hs, hk _ _ _ _ _ _ e1 wd1 ss1 (it_keys hs rs) k1⟩⟩
    | _ => exact k1.elim
/-- list(d) -/
def cListD : OL := fun ws k => match ws with
  | [w] => (match w.dic with
    | some kvs => k (kvs.map fun kv => keyW kv.1)
    | none => False)
  | _ => False
theorem cl_listD {K : PySem.W.Frag} {Z : Zx} : CallL K Z (fun xs H Q => ∃ (a : Addr) (kvs : List (Key × V)), xs = [.ref a] ∧ Rd H a (.dK kvs) ∧ ∀ p, H p = none → Q (.ref p) (upd H p (.lst (kvs.map fun kv => kV kv.1)))) cListD := by
  intro H0 H vs ws k Q e r c f
  unfold cListD at c
  split at c
  · rename_i w
    obtain ⟨v, rfl, rv⟩ := r.one
    cases hd : w.dic with
    | none => rw [hd] at c; exact c.elim
    | some kvs =>
      rw [hd] at c
      obtain ⟨p, kv, rfl, rd, rk⟩ := rv.dic_of e hd
      exact ⟨p, kv, rfl, rd, fun l hl => f l _ _ hl rk.keys c⟩
  · exact c.elim

/-! ### a dict that is a field of a name's own instance -/
theorem RepTs.at {K : PySem.W.Frag} {Z : Zx} {H0 : Hp} : ∀ {vs : List V} {ts : List T} {G : Fp} {j : Nat} {t : T}, RepTs K Z H0 vs ts G → ts[j]? = some t →
    ∃ v G1 Gt G2, vs[j]? = some v ∧ RepT K Z H0 v t Gt ∧ G = G1 ++ Gt ++ G2 ∧ ∀ t' Gt', RepT K Z H0 v t' Gt' → RepTs K Z H0 vs (ts.set j t') (G1 ++ Gt' ++ G2)
  | _, _, _, j, _, .nil, e => by simp at e
  | _, _, _, 0, _, .cons (G1 := Ga) (G2 := Gb) h r, e => by
    simp at e; subst e
    exact ⟨_, [], Ga, Gb, rfl, h, by simp, fun t' Gt' r' => RepTs.cons r' r⟩
  | _, _, _, j + 1, t, .cons (G1 := Ga) (G2 := Gb) h r, e => by
    obtain ⟨v, G1, Gt, G2, h1, h2, h3, h4⟩ := RepTs.at (j := j) (t := t) r (by simpa using e)
    refine ⟨v, Ga ++ G1, Gt, G2, by simpa using h1, h2, by rw [h3]; simp only [List.append_assoc], fun t' Gt' r' => ?_⟩
    have := RepTs.cons h (h4 t' Gt' r')
    simpa only [List.set_cons_succ, List.append_assoc] using this
/-- where it stands -/
theorem own_fld {K : PySem.W.Frag} {Z : Zx} {H0 H F : Hp} {pv : List V} {σ : L2.St} {st : S} {G : Fp} {i c j : Nat} {ts : List T} {kvs : List (Key × W)} {f : Str} (wd : Wd H0 F G H) (ss : Sts K Z H0 pv σ st G) (hg : getT st i = some (.ins c ts)) (hj : ts[j]? = some (.dK kvs)) (hf : (fldN c)[j]? = some f) :
    ∃ a dx fs p kv, σ[i]? = some (some (.ref a)) ∧ H a = some (.ins (Z.cls c) dx fs) ∧ fs.lookup f = some (.ref p) ∧ H p = some (.dK kv) ∧ RepK K Z H0 kv kvs ∧
      ∀ kv' kvs', RepK K Z H0 kv' kvs' → ∃ G', Wd H0 F G' (upd H p (.dK kv')) ∧ Sts K Z H0 pv σ (setT st i (.ins c (ts.set j (.dK kvs')))) G' := by
  have hv : ∃ v, σ[i]? = some (some v) := by
    unfold getT at hg
    cases q : at' st i with
    | un => rw [q] at hg; cases hg
    | fr _ _ _ _ _ _ => rw [q] at hg; cases hg
    | lo t => obtain ⟨v, _, _, _, h1, _⟩ := ss.lo_at q; exact ⟨v, h1⟩
    | mp k t => obtain ⟨v, _, _, _, h1, _⟩ := ss.mp_at q; exact ⟨v, h1⟩
  obtain ⟨v, hv⟩ := hv
  obtain ⟨G1, Ga, Gb, r, rfl, hs⟩ := ss.own hg hv
  cases r with
  | @ins a _ dx fs _ Gf z n r =>
    obtain ⟨vj, Gp, Gt, Gq, h1, h2, rfl, h4⟩ := r.at hj
    cases h2 with
    | @dK p kv _ rk =>
      have hjl : j < ts.length := by
        by_cases z : j < ts.length
        · exact z
        · rw [List.getElem?_eq_none (by omega)] at hj; cases hj
      have ha : H a = some (.ins (Z.cls c) dx fs) := wd.ow (a, _) (by simp)
      have hp : H p = some (.dK kv) := wd.ow (p, _) (by simp)
      refine ⟨a, dx, fs, p, kv, hv, ha, lookup_at (by rw [n]; exact (fld_nd c).sublist (List.take_sublist _ _)) (by rw [n, List.getElem?_take_of_lt hjl]; exact hf) h1, hp, rk, fun kv' kvs' rk' => ?_⟩
      have wd1 : Wd H0 F ((Ga ++ (a, .ins (Z.cls c) dx fs) :: Gp) ++ [(p, .dK kv)] ++ (Gq ++ Gb)) H := by simpa only [List.append_assoc, List.cons_append, List.nil_append] using wd
      have wd2 := wd1.write (o' := .dK kv')
      refine ⟨_, wd2, ?_⟩
      have r2 : RepT K Z H0 (.ref a) (.ins c (ts.set j (.dK kvs'))) ((a, .ins (Z.cls c) dx fs) :: (Gp ++ [(p, .dK kv')] ++ Gq)) := .ins z (by rw [List.length_set]; exact n) (h4 _ _ (.dK rk'))
      have := hs H0 _ _ (Ex.refl _) r2
      simpa only [List.append_assoc, List.cons_append, List.nil_append] using this
/-- k in x.f -/
def dFIn (ng : Bool) (i cid j : Nat) (dk : DE) : DE := fun st k x => dk st (fun rk st1 => match getT st1 i, (rk.val st1).bind W.key with
  | some (.ins c ts), some key => c = cid ∧ (match ts[j]? with
    | some (.dK kvs) => k (.w (.bl (nq ng (lk kvs key).isSome))) st1
    | _ => False)
  | _, _ => False) x
/-- x.f[k] = v, k a name -/
def dFPut (i cid j m : Nat) (dv : DE) : DS := fun D st => dv st (fun rv st1 => match rv, getT st1 i, ((R.pk m).val st1).bind W.key with
  | .w v, some (.ins c ts), some key => c = cid ∧ (match ts[j]? with
    | some (.dK kvs) => kvs.length < sizeLine ∧ D.nx (setT st1 i (.ins c (ts.set j (.dK (pt kvs key v)))))
    | _ => False)
  | _, _, _ => False) D.ex
section
variable {X : Cx} {Z : Zx} {E : XS} {e a : Expr} {dk dv : DE} {pos pos' pos2 p1 p2 : Pos} {C : Addr} {f x y : Str} {i cid j m : Nat} {ng : Bool}
theorem pc_fin (hu : X.A.units + 1 < cLine) (hk : PE X a ta) (hN : X.N[i]? = some x) (hv : Vis X.env.scope x) (hb : attributeBase (.Name x p1) f X.env (eval (.Name x p1) X.env) = eval (.Name x p1) X.env) (hd : (x == ("__debug__" : Str)) = false) (hcd : (x == ("__classdict__" : Str)) = false) :
    PC X (if ng then .NotIn else .In) a (.Attribute (.Name x p1) f p2) (tOp (if ng then rDNotIn else rDIn) ta (tFld X.K (tVar i) f)) := by
  cases ng with
  | false => exact pc_din hu hk (pe_fld (pe_var hN hv hd hcd) hb)
  | true => exact pc_dnotin hu hk (pe_fld (pe_var hN hv hd hcd) hb)
theorem fin_ok (hC : Z.cls cid = C) (cl : Cls X.K C) (hn : NoAttr X.K C f) (hj : (fldN cid)[j]? = some f) {σ : L2.St} {H : Hp} {Q : VK} (q : tE X.K Z E (dFIn ng i cid j dk) σ H Q) : tOp (if ng then rDNotIn else rDIn) (tE X.K Z E dk) (tFld X.K (tVar i) f) σ H Q := by
  subst hC
  obtain ⟨H0, F, G, pv, st, k, kx, wd, ss, hd, hk, hx⟩ := q
  refine tE_seq wd ss hx hd fun H1 G1 H1' st1 v r e1 wd1 ss1 rr k1 => ?_
  cases q1 : getT st1 i with
  | none => rw [q1] at k1; exact k1.elim
  | some t =>
    cases q2 : (r.val st1).bind W.key with
    | none => rw [q1, q2] at k1; cases t <;> exact k1.elim
    | some key =>
      rw [q1, q2] at k1
      cases t with
      | ins c ts =>
        obtain ⟨rfl, k1⟩ := k1
        cases q3 : ts[j]? with
        | none => rw [q3] at k1; exact k1.elim
        | some u =>
          rw [q3] at k1
          cases u with
          | dK kvs =>
            obtain ⟨a, dx, fs, p, kv, h1, h2, h3, h4, rk, _⟩ := own_fld wd1 ss1 q1 q3 hj
            obtain ⟨kw, hk1, hk2⟩ := Option.bind_eq_some_iff.mp q2
            have hkey := (rr.peek ss1 wd1 hk1).key_of hk2
            refine ⟨_, h1, a, _, dx, fs, _, rfl, h2, cl, hn, h3, ?_⟩
            have fin : ∀ b, (k (.w (.bl b)) st1) → Q (.bl b) H1' := fun b kb => hk _ _ _ _ _ _ e1 wd1 ss1 (.w .bl) kb
            replace k1 : k (.w (.bl (nq ng (lk kvs key).isSome))) st1 := k1
            rw [← isSome_lk rk] at k1
            cases ng with
            | false => exact ⟨p, _, rfl, .inl ⟨kv, key, .of h4, hkey, rfl⟩, fin _ k1⟩
            | true => exact ⟨p, _, rfl, .inl ⟨kv, key, .of h4, hkey, rfl⟩, fin _ k1⟩
          | _ => exact k1.elim
      | _ => exact k1.elim
theorem ptd_fin (hu : X.A.units + 1 < cLine) (hk : PD X Z E a dk) (hC : Z.cls cid = C) (cl : Cls X.K C) (hn : NoAttr X.K C f) (hN : X.N[i]? = some x := by rfl) (hv : Vis X.env.scope x := by first | exact Or.inl rfl | exact Or.inr (Or.inl rfl) | exact Or.inr (Or.inr rfl)) (hj : (fldN cid)[j]? = some f := by rfl)
    (hb : attributeBase (.Name x p1) f X.env (eval (.Name x p1) X.env) = eval (.Name x p1) X.env := by rfl) (hd : (x == ("__debug__" : Str)) = false := by decide) (hcd : (x == ("__classdict__" : Str)) = false := by decide) (hm : behindInMarks (if ng then .NotIn else .In) (.Attribute (.Name x p1) f p2) = false := by rfl) :
    PTD X Z E (.Compare a [if ng then .NotIn else .In] [.Attribute (.Name x p1) f p2] pos) (dTest (dFIn ng i cid j dk)) := pt_weak (pt_cmp (pc_fin hu hk hN hv hb hd hcd) hm) fun _ _ _ q => dtest_ok (fun _ _ _ => fin_ok hC cl hn hj) q
theorem z_fput {v : Expr} (hu : X.A.units + 1 < cLine) (hC : Z.cls cid = C) (cl : Cls X.K C) (hn : NoAttr X.K C f) (hvv : PD X Z E v dv) (hN : X.N[i]? = some x := by rfl) (hM : X.N[m]? = some y := by rfl) (hv : Vis X.env.scope x := by first | exact Or.inl rfl | exact Or.inr (Or.inl rfl) | exact Or.inr (Or.inr rfl)) (hw : Vis X.env.scope y := by first | exact Or.inl rfl | exact Or.inr (Or.inl rfl) | exact Or.inr (Or.inr rfl))
    (hj : (fldN cid)[j]? = some f := by rfl) (hb : attributeBase (.Name x p1) f X.env (eval (.Name x p1) X.env) = eval (.Name x p1) X.env := by rfl) (hd : (x == ("__debug__" : Str)) = false := by decide) (hcd : (x == ("__classdict__" : Str)) = false := by decide) (hd2 : (y == ("__debug__" : Str)) = false := by decide) (hcd2 : (y == ("__classdict__" : Str)) = false := by decide)
    (hs : swapsWith v (some (.Subscript (.Attribute (.Name x p1) f p2) (.Name y pos2) pos')) pos.line X.env = pure false := by rfl) :
    PZ X Z E (.Assign [.Subscript (.Attribute (.Name x p1) f p2) (.Name y pos2) pos'] v pos) (dFPut i cid j m dv) := by
  subst hC
  refine ps_weak (ps_dput hu (pe_fld (pe_var hN hv hd hcd) hb) (pe_var hM hw hd2 hcd2) hvv hs) fun D σ H q => ?_
  obtain ⟨H0, F, G, pv, st, DD, wd, ss, hd, ha⟩ := q
  refine tE_seq wd ss ha.ex.at hd fun H1 G1 H1' st1 v1 r1 e1 wd1 ss1 rr1 k1 => ?_
  cases rr1 with
  | pk _ => exact k1.elim
  | w rv1 =>
    rename_i wv
    replace k1 : (match getT st1 i, ((R.pk m).val st1).bind W.key with
      | some (.ins c ts), some key => c = cid ∧ (match ts[j]? with
        | some (.dK kvs) => kvs.length < sizeLine ∧ DD.nx (setT st1 i (.ins c (ts.set j (.dK (pt kvs key wv)))))
        | _ => False)
      | _, _ => False) := by
      revert k1
      cases getT st1 i with
      | none => exact fun z => z
      | some t => cases t <;> cases ((R.pk m).val st1).bind W.key <;> exact fun z => z
    cases q1 : getT st1 i with
    | none => rw [q1] at k1; exact k1.elim
    | some t =>
      cases q2 : ((R.pk m).val st1).bind W.key with
      | none => rw [q1, q2] at k1; cases t <;> exact k1.elim
      | some key =>
        rw [q1, q2] at k1
        cases t with
        | ins c ts =>
          obtain ⟨rfl, k1⟩ := k1
          cases q3 : ts[j]? with
          | none => rw [q3] at k1; exact k1.elim
          | some u =>
            rw [q3] at k1
            cases u with
            | dK kvs =>
              obtain ⟨a, dx, fs, p, kv, h1, h2, h3, h4, rk, h5⟩ := own_fld wd1 ss1 q1 q3 hj
              obtain ⟨kw, hk1, hk2⟩ := Option.bind_eq_some_iff.mp q2
              have hm : ∃ u, σ[m]? = some (some u) := by
                have hk1' : (at' st1 m).pk = some kw := hk1
                cases q : at' st1 m with
                | un => rw [q] at hk1'; cases hk1'
                | fr _ _ _ _ _ _ => rw [q] at hk1'; cases hk1'
                | lo t => obtain ⟨v, _, _, _, h1, _⟩ := ss1.lo_at q; exact ⟨v, h1⟩
                | mp k t => obtain ⟨v, _, _, _, h1, _⟩ := ss1.mp_at q; exact ⟨v, h1⟩
              obtain ⟨u, hm⟩ := hm
              have hkey := (RepR.peek (RepR.pk (Z := Z) (K := X.K) (H := H1) hm) ss1 wd1 hk1).key_of hk2
              obtain ⟨G2, wd2, ss2⟩ := h5 _ _ (rk.put (k := key) rv1)
              refine ⟨_, h1, a, _, dx, fs, _, rfl, h2, cl, hn, h3, u, hm, p, _, rfl, .inl ⟨kv, key, h4, hkey, by rw [rk.length]; exact k1.1, rfl⟩, ?_⟩
              exact ha.nx _ _ _ _ _ e1 wd2 ss2 k1.2
            | _ => exact k1.elim
        | _ => exact k1.elim
end
end Y
/-! xs[::e], e 1 or -1 -/
namespace Y
open PySem L2
open PySem.Spec PyProof.Rows
section
variable {X : Cx} {e d : Expr} {te td : TE}
end
end Y
namespace Y
open PySem L2
open PySem.Spec PyProof.Rows
open Evl (Ex)
/-! ### xs[::e] of a list, e 1 or -1 -/
section
variable {X : Cx} {Z : Zx} {E : XS} {e d : Expr} {da dc : DE} {p3 pos : Pos}
end
end Y
/-! Y48: tuples without a dict of their own (W.tp); dict(x) of such a tuple of pairs; d.get(k, x). -/
namespace L2
open PySem PySem.Spec PyProof.Rows
end L2
namespace Y
open PySem L2
open Evl (Ex)
section
variable {K : PySem.W.Frag} {Z : Zx}
/-- such a tuple read as a tuple -/
def W.as : W → W
  | .tp ws => .tup ws
  | w => w
theorem Rep.as {H : Hp} {v : V} {w : W} (h : Rep K Z H v w) : Rep K Z H v w.as := by
  cases h with
  | tp h d r => exact .tup (.inl (.inr ⟨_, h⟩)) r
  | _ => first | assumption | (constructor <;> assumption)
end
section
variable {X : Cx} {Z : Zx} {E : XS} {e o f : Expr} {da db dx : DE} {apos cpos : Pos}
end
end Y
/-! Y49: slices, sums, displays of tuples that stay without a dict of their own. -/
namespace L2
open PySem PySem.Spec PyProof.Rows
section
variable {X : Cx}
variable {e : Expr} {te : TE} {es : List Expr} {t : TA} {pos : Pos}
end
end L2
namespace Y
open PySem L2
open Evl (Ex)
section
variable {K : PySem.W.Frag} {Z : Zx}
theorem Rep.plain {H : Hp} {p : Addr} {ws : List W} (h : Rep K Z H (.ref p) (.tp ws)) : Rep K Z H (.ref p) (.tup ws) := h.as
end
section
variable {X : Cx} {Z : Zx} {E : XS} {e a b : Expr} {es : List Expr} {lo hi : Option Expr} {da db : DE} {ds : DA} {dlo dhi : DO} {k : Nat} {p1 p2 p3 pos : Pos}
end
end Y
/-! Y50: a list of two own lists (T.wo), and names of the one or the other (W.ob): len, an item, a store, tuple(..) -/
namespace Y
open PySem L2
open Evl (Ex)
def atL (st : S) (i j : Nat) : Option (Addr × List W) := match at' st i with
  | .lo (.wo _ ls) => ls[j]?
  | _ => none
def putL (st : S) (i j : Nat) (p : Addr × List W) : S := match at' st i with
  | .lo (.wo w ls) => put st i (.lo (.wo w (ls.set j p)))
  | _ => st
section
variable {K : PySem.W.Frag} {Z : Zx} {H0 H F : Hp}
theorem RepL.at : ∀ {ls : List (Addr × List W)} {G : Fp} {j : Nat} {a : Addr} {ws : List W}, RepL K Z H0 ls G → ls[j]? = some (a, ws) →
    ∃ xs Ga Gb, G = Ga ++ [(a, .lst xs)] ++ Gb ∧ Reps K Z H0 xs ws ∧ ∀ xs' ws', Reps K Z H0 xs' ws' → RepL K Z H0 (ls.set j (a, ws')) (Ga ++ [(a, .lst xs')] ++ Gb)
  | _, _, j, _, _, .nil, e => by simp at e
  | _, _, 0, a, ws, .cons (xs := xs) (G := G) h r, e => by
    simp at e
    obtain ⟨rfl, rfl⟩ := e
    exact ⟨xs, [], G, rfl, h, fun xs' ws' h' => .cons h' r⟩
  | _, _, j + 1, a, ws, .cons (a := b) (xs := ys) h r, e => by
    obtain ⟨xs, Ga, Gb, h1, h2, h3⟩ := RepL.at (j := j) (a := a) (ws := ws) r (by simpa using e)
    refine ⟨xs, (b, .lst ys) :: Ga, Gb, by rw [h1]; rfl, h2, fun xs' ws' h' => ?_⟩
    exact .cons h (h3 xs' ws' h')
theorem Sts.ol {pv : List V} {σ : L2.St} {st : S} {G : Fp} {i j : Nat} {a : Addr} {ws : List W} (ss : Sts K Z H0 pv σ st G) (e : atL st i j = some (a, ws)) :
    ∃ xs Ga Gb, G = Ga ++ [(a, .lst xs)] ++ Gb ∧ Reps K Z H0 xs ws ∧ ∀ xs' ws', Reps K Z H0 xs' ws' → Sts K Z H0 pv σ (putL st i j (a, ws')) (Ga ++ [(a, .lst xs')] ++ Gb) := by
  unfold atL at e
  split at e
  · rename_i w ls q
    obtain ⟨v, G1, Ga, Gb, h1, h2, h3, h4, _⟩ := ss.lo_at q
    cases h2 with
    | wo r rl =>
      obtain ⟨xs, Gc, Gd, g1, g2, g3⟩ := rl.at e
      refine ⟨xs, Ga ++ Gc, Gd ++ Gb, by rw [h3, g1]; simp only [List.append_assoc], g2, fun xs' ws' h' => ?_⟩
      have := h4 H0 v (.wo w (ls.set j (a, ws'))) _ (Ex.refl _) (.wo r (g3 xs' ws' h'))
      rw [set_self h1] at this
      unfold putL
      rw [q]
      simpa only [List.append_assoc] using this
  · cases e
end
section
variable {X : Cx} {Z : Zx} {E : XS} {e b : Expr} {da db : DE} {la lb : DL} {i : Nat} {p pos : Pos}
end
end Y
namespace Y
open PySem L2
/-! ### names that are drawn -/
def abc : Str := Str.ofString "abcdefghijklmnopqrstuvwxyz"
theorem abc_at : ∀ m : _root_.Fin 26, L2.atI abc.cps.toList ((m : Nat) : Int) = some (97 + (m : Nat)) := by decide +kernel
theorem abc_occ : ∀ m : _root_.Fin 26, (Builtin.Str.occurrences abc ⟨#[97 + (m : Nat)]⟩ 0 abc.length 1).head? = some (m : Nat) := by decide +kernel
theorem abc_ix {m : Int} (h0 : 0 ≤ m) (h1 : m < 26) : L2.atI abc.cps.toList m = some (97 + m.toNat) := by
  have h := abc_at ⟨m.toNat, by omega⟩
  have e : ((m.toNat : Nat) : Int) = m := by omega
  rw [show (((⟨m.toNat, by omega⟩ : _root_.Fin 26) : Nat) : Int) = m from e] at h
  exact h
theorem one_join : ∀ cs : List Nat, (Txt.join (Str.ofString "") (cs.map fun c => (⟨#[c]⟩ : Str))).cps.toList = cs := by
  intro cs
  show (Builtin.Str.glued (Str.ofString "") (cs.map fun c => (⟨#[c]⟩ : Str))).cps.toList = cs
  rw [StrLaws.glued_eq_join]
  have z : (Str.ofString "").cps = #[] := by decide +kernel
  induction cs with
  | nil => rfl
  | cons c cs ih =>
    cases cs with
    | nil => rfl
    | cons d ds =>
      show (((⟨#[c]⟩ : Str) ++ Str.ofString "" ++ Str.join (Str.ofString "") ((d :: ds).map fun c => (⟨#[c]⟩ : Str))).cps).toList = _
      show ((#[c] ++ (Str.ofString "").cps ++ (Str.join (Str.ofString "") ((d :: ds).map fun c => (⟨#[c]⟩ : Str))).cps)).toList = _
      rw [z, Array.toList_append, ih]
      rfl
theorem pick6 {d : Int} (h0 : 0 ≤ d) (h1 : d < 6) : ∃ i : Int, L2.atI [W.int 3, .int 5, .int 7, .int 9, .int 11, .int 15] d = some (.int i) ∧ (i = 3 ∨ i = 5 ∨ i = 7 ∨ i = 9 ∨ i = 11 ∨ i = 15) := by
  rcases (show d = 0 ∨ d = 1 ∨ d = 2 ∨ d = 3 ∨ d = 4 ∨ d = 5 by omega) with rfl | rfl | rfl | rfl | rfl | rfl <;> exact ⟨_, rfl, by decide⟩
theorem occ_of {c : Nat} (h0 : 97 ≤ c) (h1 : c < 123) : ∃ rest, Builtin.Str.occurrences abc ⟨#[c]⟩ 0 abc.length 1 = (c - 97) :: rest := by
  have h := abc_occ ⟨c - 97, by omega⟩
  have e : 97 + (c - 97) = c := by omega
  simp only [e] at h
  cases q : Builtin.Str.occurrences abc ⟨#[c]⟩ 0 abc.length 1 with
  | nil => rw [q] at h; cases h
  | cons x rest => rw [q] at h; cases h; exact ⟨rest, rfl⟩
theorem cut_sl {z : Str} {n : Nat} {lo hi : Option Int} (h : SL z n) : SL (cutS z lo hi) n := Nat.le_trans (cutS_length z lo hi) h
/-- a name -/
structure Nm (s : Str) : Prop where
  l0 : 1 ≤ s.length
  l1 : s.length ≤ 12
  az : ∀ c ∈ s.cps.toList, 97 ≤ c ∧ c < 123
theorem Nm.sl {s : Str} (h : Nm s) : SL s 12 := h.l1
theorem len_cps (s : Str) : s.length = s.cps.toList.length := by
  show s.cps.size = _
  rw [Array.length_toList]
theorem app_cps (a b : Str) : (a ++ b).cps.toList = a.cps.toList ++ b.cps.toList := by
  show (a.cps ++ b.cps).toList = _
  rw [Array.toList_append]
theorem cut_cps (z : Str) (lo hi : Option Int) : (cutS z lo hi).cps.toList = (z.cps.toList.drop (HT.sIx z.length 0 lo)).take (HT.sIx z.length z.length hi - HT.sIx z.length 0 lo) := rfl
theorem cut_hd (z : Str) (n : Nat) (h : n ≤ z.length) : (cutS z none (some (n : Int))).cps.toList = z.cps.toList.take n := by
  rw [cut_cps, HT.sIx_none, HT.sIx_nat, List.drop_zero, Nat.sub_zero, Nat.min_eq_left h]
theorem cut_tl (z : Str) (n : Nat) (h : n ≤ z.length) : (cutS z (some (n : Int)) none).cps.toList = z.cps.toList.drop n := by
  rw [cut_cps, HT.sIx_none, HT.sIx_nat, Nat.min_eq_left h]
  rw [List.take_of_length_le]
  rw [List.length_drop, ← len_cps]
  exact Nat.le_refl _
/-- the name that is drawn for a number -/
def nameF (word : Str) (at_ : Nat) (first by_ : Int) (lot : Nat) (k : Nat) : Str := cutS word none (some (at_ : Int)) ++ ⟨#[97 + ((first + by_ * (k : Int)) % 26).toNat]⟩ ++ cutS (cutS word (some ((at_ : Int) + 1)) none) none (some (if lot % 2 = 0 then 12 else (k : Int) % 4))
section
variable {word : Str} {at_ : Nat} {first by_ : Int} {lot : Nat}
theorem nameF_cps (h : at_ + 1 ≤ word.length) (k : Nat) : ∃ t : List Nat, t.length ≤ word.length - (at_ + 1) ∧ (∀ c ∈ t, c ∈ word.cps.toList) ∧ (nameF word at_ first by_ lot k).cps.toList = word.cps.toList.take at_ ++ (97 + ((first + by_ * (k : Int)) % 26).toNat) :: t := by
  refine ⟨(cutS (cutS word (some ((at_ : Int) + 1)) none) none (some (if lot % 2 = 0 then 12 else (k : Int) % 4))).cps.toList, ?_, ?_, ?_⟩
  · rw [← len_cps]
    refine Nat.le_trans (cutS_length _ _ _) ?_
    have e : ((at_ : Int) + 1) = ((at_ + 1 : Nat) : Int) := by omega
    rw [e, len_cps, cut_tl word (at_ + 1) h, List.length_drop, ← len_cps]
    exact Nat.le_refl _
  · intro c hc
    rw [cut_cps] at hc
    have h1 := List.mem_of_mem_drop (List.mem_of_mem_take hc)
    rw [cut_cps] at h1
    exact List.mem_of_mem_drop (List.mem_of_mem_take h1)
  · unfold nameF
    rw [app_cps, app_cps, cut_hd word at_ (by omega)]
    simp
theorem nameF_nm (h : at_ + 1 ≤ word.length) (h12 : word.length ≤ 12) (haz : ∀ c ∈ word.cps.toList, 97 ≤ c ∧ c < 123) (k : Nat) : Nm (nameF word at_ first by_ lot k) := by
  obtain ⟨t, h1, h2, h3⟩ := nameF_cps (first := first) (by_ := by_) (lot := lot) h k
  have hm : 0 ≤ (first + by_ * (k : Int)) % 26 ∧ (first + by_ * (k : Int)) % 26 < 26 := ⟨Int.emod_nonneg _ (by decide), Int.emod_lt_of_pos _ (by decide)⟩
  have hl : (nameF word at_ first by_ lot k).length = at_ + 1 + t.length := by
    rw [len_cps, h3, List.length_append, List.length_take, List.length_cons, ← len_cps]
    omega
  refine ⟨by omega, by omega, fun c hc => ?_⟩
  rw [h3] at hc
  rcases List.mem_append.mp hc with h | h
  · exact haz c (List.mem_of_mem_take h)
  · rcases List.mem_cons.mp h with rfl | h
    · omega
    · exact haz c (h2 c h)
theorem nameF_ne (h : at_ + 1 ≤ word.length) (hby : by_ = 3 ∨ by_ = 5 ∨ by_ = 7 ∨ by_ = 9 ∨ by_ = 11 ∨ by_ = 15) {j k : Nat} (hj : j < 26) (hk : k < 26) (e : nameF word at_ first by_ lot j = nameF word at_ first by_ lot k) : j = k := by
  obtain ⟨t, h1, h2, h3⟩ := nameF_cps (first := first) (by_ := by_) (lot := lot) h j
  obtain ⟨u, g1, g2, g3⟩ := nameF_cps (first := first) (by_ := by_) (lot := lot) h k
  rw [e, g3] at h3
  have h4 := List.append_cancel_left h3
  have h5 : 97 + ((first + by_ * (k : Int)) % 26).toNat = 97 + ((first + by_ * (j : Int)) % 26).toNat := (List.cons.inj h4).1
  have hm : 0 ≤ (first + by_ * (k : Int)) % 26 := Int.emod_nonneg _ (by decide)
  have hm2 : 0 ≤ (first + by_ * (j : Int)) % 26 := Int.emod_nonneg _ (by decide)
  rcases hby with rfl | rfl | rfl | rfl | rfl | rfl <;> omega
theorem head_nm (h : at_ + 1 ≤ word.length) (h0 : 0 < at_) (h12 : word.length ≤ 12) (haz : ∀ c ∈ word.cps.toList, 97 ≤ c ∧ c < 123) : Nm (cutS word none (some (at_ : Int))) := by
  have hc := cut_hd word at_ (by omega)
  have hl : (cutS word none (some (at_ : Int))).length = at_ := by
    rw [len_cps, hc, List.length_take, ← len_cps]
    omega
  exact ⟨by omega, by omega, fun c hc' => haz c (List.mem_of_mem_take (by rw [hc] at hc'; exact hc'))⟩
theorem head_ne (h : at_ + 1 ≤ word.length) (k : Nat) : cutS word none (some (at_ : Int)) ≠ nameF word at_ first by_ lot k := fun e => by
  obtain ⟨t, h1, h2, h3⟩ := nameF_cps (first := first) (by_ := by_) (lot := lot) h k
  have hl := congrArg List.length h3
  rw [← e, cut_hd word at_ (by omega), List.length_append, List.length_cons] at hl
  omega
theorem names_nodup (h : at_ + 1 ≤ word.length) (hby : by_ = 3 ∨ by_ = 5 ∨ by_ = 7 ∨ by_ = 9 ∨ by_ = 11 ∨ by_ = 15) {m : Nat} (hm : m ≤ 26) : ((List.range m).map (nameF word at_ first by_ lot)).Nodup := by
  induction m with
  | zero => exact List.nodup_nil
  | succ m ih =>
    rw [List.range_succ, List.map_append, List.map_cons, List.map_nil]
    refine List.nodup_append.mpr ⟨ih (by omega), by simp, fun a ha b hb e => ?_⟩
    obtain ⟨j, hj, rfl⟩ := List.mem_map.mp ha
    have hb' : b = nameF word at_ first by_ lot m := by simpa using hb
    subst hb'
    have hj := List.mem_range.mp hj
    have := nameF_ne h hby (by omega) (by omega) e
    omega
theorem set_nodup {α : Type} {xs : List α} {x : α} (nd : xs.Nodup) (hx : ∀ y ∈ xs, x ≠ y) (q : Nat) : (xs.set q x).Nodup := by
  induction xs generalizing q with
  | nil => exact nd
  | cons y ys ih =>
    obtain ⟨n1, n2⟩ := List.nodup_cons.mp nd
    cases q with
    | zero => exact List.nodup_cons.mpr ⟨fun hm => hx x (List.mem_cons_of_mem _ hm) rfl, n2⟩
    | succ q =>
      refine List.nodup_cons.mpr ⟨fun hm => ?_, ih n2 (fun z hz => hx z (List.mem_cons_of_mem _ hz)) q⟩
      rcases List.mem_or_eq_of_mem_set hm with h | h
      · exact n1 h
      · exact hx y List.mem_cons_self h.symm
end
def c__law_names : Ct := fun ts k _ => ∃ (n : Nat) (p : Pen) (many : Nat), ts = [penT p, .fz (.int many)] ∧ PenB n p ∧ n ≤ 100000000 ∧ many ≤ 1000 ∧
  ∀ (ns : List Str) p', ns.length = many → (∀ s ∈ ns, Nm s) → (many ≤ 26 → ns.Nodup) → PenB (n + 20) p' → k (.fz (.lst (ns.map .str))) [penT p', .fz (.int many)]
/-- _law_names -/
def d__law_names : DS := (dSeq (dAsg 2 (dC (.str "abcdefghijklmnopqrstuvwxyz")))
  (dSeq (dAsg 4 (dMt "str" oJoin (dC (.str "")) (aCons (dFz (lComp (iRg1 (aCons (dOp oPlus (dC (.int 1)) (dOf (dCallU c__law_draw [.u 0, .u 1] [] 2 0 (aCons (dVar 0) (aCons (dC (.int 12)) aNil)) aNil))) aNil)) (.one 3) tYes' (dOp oSub' (dVar 2) (dOf (dCallU c__law_draw [.u 0, .u 1] [] 2 0 (aCons (dVar 0) (aCons (dC (.int 26)) aNil)) aNil))))) aNil)))
  (dSeq (dAsg 5 (dOf (dCallU c__law_draw [.u 0, .u 1] [] 2 0 (aCons (dVar 0) (aCons (dCB cLen (aCons (dVar 4) aNil)) aNil)) aNil)))
  (dSeq (dPar 6 7 (aCons (dOf (dCallU c__law_draw [.u 0, .u 1] [] 2 0 (aCons (dVar 0) (aCons (dC (.int 26)) aNil)) aNil)) (aCons (dOp oSub' (dFz (lDisp (aCons (dC (.int 3)) (aCons (dC (.int 5)) (aCons (dC (.int 7)) (aCons (dC (.int 9)) (aCons (dC (.int 11)) (aCons (dC (.int 15)) aNil)))))))) (dOf (dCallU c__law_draw [.u 0, .u 1] [] 2 0 (aCons (dVar 0) (aCons (dC (.int 6)) aNil)) aNil))) aNil)))
  (dSeq (dParO 8 9 (dMt "str" oSIndex (dVar 2) (aCons (dOp oSub' (dVar 4) (dVar 5)) aNil)) (lDisp aNil))
  (dSeq (dFor [3, 10] (iRg1 (aCons (dVar 1) aNil)) (gN 3)
  (dSeq (dAsg 10 (dCutS (dCutS (dVar 4) (oPart (dOp oPlus (dVar 5) (dC (.int 1)))) oNone) oNone (oPart (dOp oSub' (dFz (lDisp (aCons (dC (.int 12)) (aCons (dOp oMod (dVar 3) (dC (.int 4))) aNil)))) (dOp oMod (dVar 8) (dC (.int 2)))))))
  (dExpr (dMutL fAppend (dVar 9) (aCons (dOp oPlus (dOp oPlus (dCutS (dVar 4) oNone (oPart (dVar 5))) (dOp oSub' (dVar 2) (dOp oMod (dOp oPlus (dVar 6) (dOp oTimes (dVar 7) (dVar 3))) (dC (.int 26))))) (dVar 10)) aNil)))))
  (dSeq (dIf (dAnd (dTest (dOp oGt (dVar 5) (dC (.int 0)))) (dAnd (dTest (dOp oGt (dVar 1) (dC (.int 0)))) (dTest (dOp (oEqX false) (dOp oMod (dOp oDiv (dVar 8) (dC (.int 2))) (dC (.int 3))) (dC (.int 1))))))
  (dAsgG (gSubD (dVar 9) (dOp oMod (dOp oDiv (dVar 8) (dC (.int 6))) (dVar 1))) (dCutS (dVar 4) oNone (oPart (dVar 5))))
  dNext)
  (dRetF (dVar 9)))))))))
theorem m__law_names : Meets c__law_names 2 9 d__law_names := by
  intro ts k kx h
  obtain ⟨n, p, many, rfl, hp, hn, hm, hk⟩ := h
  refine ⟨rfl, rfl, rfl, n, p, 12, rfl, hp, by omega, by decide, by decide, fun d1 p1 a1 b1 hp1 => ?_⟩
  refine ⟨⟨by omega, by omega⟩, ?_⟩
  refine compW_st (fun j acc st => ∃ (cs : List Nat) (p' : Pen), acc = cs.map (fun c => .str ⟨#[c]⟩) ∧ cs.length = j ∧ (∀ c ∈ cs, 97 ≤ c ∧ c < 123) ∧ PenB (n + 1 + j) p' ∧ st = [.mp 0 (penT p'), .lo (.fz (.int many)), .lo (.fz (.str abc)), .un, .un, .un, .un, .un, .un, .un, .un]) ⟨[], p1, rfl, rfl, (fun _ h => nomatch h), hp1, rfl⟩ ?_ ?_ ?_
  · rintro j w hw acc st ⟨cs, p', rfl, hcs, hr, hp', rfl⟩ A B hA hB
    have hj : j < (1 + d1).toNat := by
      have := (List.getElem?_eq_some_iff.mp hw).1
      rw [List.length_map, List.length_range] at this
      exact this
    rw [List.getElem?_map] at hw
    obtain ⟨j', h1, rfl⟩ := Option.map_eq_some_iff.mp hw
    refine ye ⟨rfl, _, p', 26, rfl, hp', by omega, by decide, by decide, fun d p2 a2 b2 hp2 => ?_⟩
    refine ⟨by decide +kernel, _, abc_ix a2 b2, hA _ _ ⟨cs ++ [97 + d.toNat], p2, by simp, by simp [hcs], ?_, hp2.mono (by omega), rfl⟩⟩
    intro c hc
    rcases List.mem_append.mp hc with h | h
    · exact hr c h
    · have : c = 97 + d.toNat := by simpa using h
      omega
  · have h62 : (1 + d1).toNat ≤ 12 := by omega
    rw [List.length_map, List.length_range]
    exact Nat.le_trans h62 (by decide)
  · rintro acc st ⟨cs, p2, rfl, hcs, hr, hp2, rfl⟩
    rw [List.length_map, List.length_range] at hcs hp2
    have hl1 : cs.length = (1 + d1).toNat := hcs
    have hone : (cs.map fun c => (⟨#[c]⟩ : Str)).map Str.length = cs.map fun _ => 1 := by
      rw [List.map_map]
      rfl
    have hsum : ((cs.map fun c => (⟨#[c]⟩ : Str)).map (·.length)).sum = cs.length := by
      rw [hone]
      clear hone hl1 hcs hr
      induction cs with
      | nil => rfl
      | cons c cs ih => rw [List.map_cons, List.sum_cons, ih, List.length_cons]; omega
    have z0 : (Str.ofString "").length = 0 := by decide +kernel
    refine ⟨cs.map fun c => ⟨#[c]⟩, by rw [List.map_map]; rfl, by rw [hsum, z0]; omega, ?_⟩
    have hword := one_join cs
    generalize hwd : Txt.join (Str.ofString "") (cs.map fun c => (⟨#[c]⟩ : Str)) = word at *
    have hwl : word.length = cs.length := by
      show word.cps.size = _
      rw [← Array.length_toList, hword]
    have hw12 : SL word 12 := by show word.length ≤ 12; omega
    refine ⟨hw12.line rfl, rfl, _, p2, _, rfl, hp2, by omega, by omega, by omega, fun at_ p3 a3 b3 hp3 => ?_⟩
    refine ⟨rfl, _, p3, 26, rfl, hp3, by omega, by decide, by decide, fun first p4 a4 b4 hp4 => ?_⟩
    refine ⟨lel 6 rfl, rfl, _, p4, 6, rfl, hp4, by omega, by decide, by decide, fun d5 p5 a5 b5 hp5 => ?_⟩
    obtain ⟨by_, hby, hbo⟩ := pick6 a5 b5
    obtain ⟨a, rfl⟩ : ∃ a : Nat, at_ = a := ⟨at_.toNat, by omega⟩
    have hat : a < cs.length := by omega
    have hc : cs[a]? = some cs[a] := List.getElem?_eq_getElem hat
    have hcr := hr _ (List.getElem_mem hat)
    generalize cs[a] = c at hc hcr
    obtain ⟨rest, hocc⟩ := occ_of hcr.1 hcr.2
    have hix : L2.atI word.cps.toList (a : Int) = some c := by
      rw [hword]
      exact L2.atI_nat hc
    refine ⟨_, hby, rfl, hw12.line rfl, c, hix, _, rest, hocc, lel 0 rfl, ?_⟩
    have hlot : c - 97 < 26 := by omega
    generalize c - 97 = lot at hlot
    have haw : a + 1 ≤ word.length := by omega
    have haz : ∀ c ∈ word.cps.toList, 97 ≤ c ∧ c < 123 := by rw [hword]; exact hr
    have h12 : word.length ≤ 12 := hw12
    have y0 : 0 ≤ by_ ∧ by_ ≤ 15 := by omega
    refine ⟨⟨by omega, by omega⟩, ?_⟩
    refine for_ind (fun j st => st = [.mp 0 (penT p5), .lo (.fz (.int many)), .lo (.fz (.str abc)), .un, .lo (.fz (.str word)), .lo (.fz (.int a)), .lo (.fz (.int first)), .lo (.fz (.int by_)), .lo (.fz (.int lot)), .lo (.lst (((List.range j).map (nameF word a first by_ lot)).map .str)), .un]) rfl ?_ ?_
    · rintro j w hw kk hkk st rfl
      have hj : j < many := by
        have := (List.getElem?_eq_some_iff.mp hw).1
        rw [List.length_map, List.length_range] at this
        omega
      rw [List.getElem?_map] at hw
      obtain ⟨j', h1, rfl⟩ := Option.map_eq_some_iff.mp hw
      have hj' : j' = j := by
        have := (List.getElem?_eq_some_iff.mp h1).2
        simpa using this.symm
      subst hj'
      rw [Int.zero_add]
      have hpick2 : L2.atI [W.int 12, .int ((j' : Int) % 4)] ((lot : Int) % 2) = some (.int (if lot % 2 = 0 then 12 else (j' : Int) % 4)) := by
        rcases (show lot % 2 = 0 ∨ lot % 2 = 1 by omega) with e | e
        · rw [show (lot : Int) % 2 = 0 by omega, if_pos e]; rfl
        · rw [show (lot : Int) % 2 = 1 by omega, if_neg (by omega)]; rfl
      refine ⟨hw12.line rfl, (show (0 : Int) < 4 by decide), lel 2 rfl, (show (0 : Int) < 2 by decide), _, hpick2, (cut_sl hw12).line rfl, ?_⟩
      have htail : SL (cutS (cutS word (some ((a : Int) + 1)) none) none (some (if lot % 2 = 0 then 12 else (j' : Int) % 4))) 12 := cut_sl (cut_sl hw12)
      have hm26 : 0 ≤ (first + by_ * (j' : Int)) % 26 ∧ (first + by_ * (j' : Int)) % 26 < 26 := ⟨Int.emod_nonneg _ (by decide), Int.emod_lt_of_pos _ (by decide)⟩
      refine ⟨hw12.line rfl, mul_small (by omega) (by omega) (by omega) (by omega), (show (0 : Int) < 26 by decide), by decide +kernel, _, abc_ix hm26.1 hm26.2, ?_⟩
      have hhead : SL (cutS word none (some (a : Int))) 12 := cut_sl hw12
      have hone2 : SL (⟨#[97 + ((first + by_ * (j' : Int)) % 26).toNat]⟩ : Str) 1 := Nat.le_refl 1
      have h13 := hhead.app hone2
      have h25 := h13.app htail
      refine ⟨h13.sum rfl, h25.sum rfl, ?_, ?_⟩
      · rw [List.length_map, List.length_map, List.length_range]
        exact Nat.lt_of_lt_of_le (show j' < 1001 by omega) (by decide)
      · refine hkk _ ?_
        rw [List.range_succ, List.map_append, List.map_append]
        rfl
    · rintro st rfl
      rw [List.length_map, List.length_range, Int.toNat_natCast]
      have nm : ∀ s ∈ (List.range many).map (nameF word a first by_ lot), Nm s := fun s hs => by
        obtain ⟨k, _, rfl⟩ := List.mem_map.mp hs
        exact nameF_nm haw h12 haz k
      have nd : many ≤ 26 → ((List.range many).map (nameF word a first by_ lot)).Nodup := fun hm => names_nodup haw hbo hm
      have hdn : a ≠ 0 → ∀ y ∈ (List.range many).map (nameF word a first by_ lot), cutS word none (some (a : Int)) ≠ y := fun _ y hy => by
        obtain ⟨k, _, rfl⟩ := List.mem_map.mp hy
        exact head_ne haw k
      have hln : ((List.range many).map (nameF word a first by_ lot)).length = many := by rw [List.length_map, List.length_range]
      generalize (List.range many).map (nameF word a first by_ lot) = ns at nm nd hdn hln
      have fin : ∀ ns' : List Str, ns'.length = many → (∀ s ∈ ns', Nm s) → (many ≤ 26 → ns'.Nodup) → (dRetF (dVar 9)) (endsOf [penT p, .fz (.int many)] k kx) [.mp 0 (penT p5), .lo (.fz (.int many)), .lo (.fz (.str abc)), .un, .lo (.fz (.str word)), .lo (.fz (.int a)), .lo (.fz (.int first)), .lo (.fz (.int by_)), .lo (.fz (.int lot)), .lo (.lst (ns'.map .str)), .un] := fun ns' h1 h2 h3 => hk ns' p5 h1 h2 h3 (hp5.mono (by omega))
      refine br (fun e1 => ?_) fun e1 => no (fin ns hln nm nd)
      refine br (fun e2 => ?_) fun e2 => no (fin ns hln nm nd)
      refine ⟨div_ok (by decide) (by decide), (show (0 : Int) < 3 by decide), Or.inr ⟨_, rfl, br (fun e3 => ?_) fun e3 => fin ns hln nm nd⟩⟩
      have hi : 0 ≤ (lot : Int) / 6 % many ∧ (lot : Int) / 6 % many < many := ⟨Int.emod_nonneg _ (by omega), Int.emod_lt_of_pos _ (by omega)⟩
      refine ⟨hw12.line rfl, div_ok (by decide) (by decide), (show (0 : Int) < (many : Int) by omega), ((lot : Int) / 6 % many).toNat, ?_, ?_⟩
      · show L2.ixN (ns.map W.str).length _ = _
        rw [List.length_map, hln]
        unfold L2.ixN
        rw [if_pos hi.1, if_pos hi.2]
      · generalize ((lot : Int) / 6 % many).toNat = q
        have h0 : 0 < a := by have : (a : Int) > 0 := e1; omega
        have := fin (ns.set q (cutS word none (some (a : Int)))) (by rw [List.length_set]; exact hln) (fun s hs => by
          rcases List.mem_or_eq_of_mem_set hs with h | h
          · exact nm s h
          · rw [h]; exact head_nm haw h0 h12 haz) fun hm => set_nodup (nd hm) (hdn (by omega)) q
        rw [List.map_set] at this
        exact this
end Y
namespace Y
open PySem L2
/-! ### sheets on data -/
abbrev Give := Str × (Int × Int) × Int
abbrev Piece := Str × (Int × Int) × List Str
abbrev txL (ns : List Str) : W := .lst (ns.map .str)
abbrev txT (ns : List Str) : W := .tup (ns.map .str)
abbrev prI (p : Int × Int) : W := .tup [.int p.1, .int p.2]
abbrev giveW (g : Give) : W := .tup [.str g.1, prI g.2.1, .int g.2.2]
abbrev pieceW (p : Piece) : W := .tup [.str p.1, prI p.2.1, txT p.2.2]
abbrev spW (p : Int × Int) : W := .ins 0 [.int p.1, .int p.2]
abbrev giveS (g : Give) : W := .tup [.str g.1, spW g.2.1, .int g.2.2]
abbrev rowW (p : Piece) : W := .tup [spW p.2.1, txT p.2.2]
abbrev rowS (p : Piece) : Key × W := (.inr p.1, rowW p)
abbrev sheetW (gs : List Give) (ps : List Piece) : W := .ins 4 [.lst (gs.map giveS), .dF (ps.map rowS)]
abbrev homesOf (gs : List Give) : List Str := gs.map (·.1)
abbrev titles (ps : List Piece) : List Str := ps.map (·.1)
structure Raw (gs : List Give) (ps : List Piece) : Prop where
  gl : gs.length < 64
  gn : ∀ g ∈ gs, Nm g.1
  pl : ps.length < 64
  pn : ∀ p ∈ ps, Nm p.1
  pd : (titles ps).Nodup
  pm : ∀ p ∈ ps, p.2.2.Nodup ∧ p.2.2.length < 64 ∧ ∀ m ∈ p.2.2, m ∈ homesOf gs
def gotP (gs : List Give) (h : Str) : Int × Int := (((gs.filter fun g => decide (g.1 = h)).map (·.2.1.1)).sum, ((gs.filter fun g => decide (g.1 = h)).map (·.2.1.2)).sum)
def wasteP (gs : List Give) (h : Str) : Int := ((gs.filter fun g => decide (g.1 = h)).map (·.2.2)).sum
/-! ### lists of texts -/
theorem inL (a : Str) (ns : List Str) : inW (.str a) (txL ns) = some (decide (a ∈ ns)) := anyW_map (n := 5 + 1) (fun x y => eqW_str 5 x y) a ns
theorem eqA_str (a b : Str) : eqA (.str a) (.str b) = some (decide (a = b)) := rfl
theorem anyA (a : Str) : ∀ ns : List Str, anyW (fun y => eqA y (.str a)) (ns.map .str) = some (decide (a ∈ ns))
  | [] => rfl
  | n :: ns => by
    rw [List.map_cons]
    unfold anyW
    rw [eqA_str, anyA a ns]
    by_cases e : n = a
    · subst e; simp
    · have e' : ¬ a = n := fun z => e z.symm
      simp [e, e']
theorem inT (a : Str) (ns : List Str) : inW (.str a) (txT ns) = some (decide (a ∈ ns)) := by
  have h : ((ns.map W.str).all fun y => y.at.isSome) = true := by simp [W.at]
  show (if (W.str a).at.isSome = true ∧ ((ns.map W.str).all fun y => y.at.isSome) = true then anyW (fun y => eqA y (.str a)) (ns.map .str) else anyW (fun y => eqW 6 y (.str a)) (ns.map .str)) = _
  rw [if_pos ⟨rfl, h⟩, anyA]
/-! ### sums -/
theorem sum_take {α : Type} (f : α → Int) {xs : List α} {j : Nat} {x : α} (h : xs[j]? = some x) : ((xs.take (j + 1)).map f).sum = ((xs.take j).map f).sum + f x := by
  rw [List.take_succ, h]
  simp [List.sum_append_int]

/-! ### keys that are put, once each -/
theorem lk_map {α : Type} (f : α → Str) (g : α → W) : ∀ {xs : List α} {t : Str}, t ∉ xs.map f → lk (xs.map fun x => ((.inr (f x) : Key), g x)) (.inr t) = none
  | [], _, _ => rfl
  | x :: xs, t, h => by
    rw [List.map_cons] at h ⊢
    rw [lk_neg (p := ((Sum.inr (f x) : Key), g x)) (fun e => h (by have := Sum.inr.inj e; rw [this]; exact List.mem_cons_self))]
    exact lk_map f g (fun m => h (List.mem_cons_of_mem _ m))
theorem lk_at {α : Type} (f : α → Str) (g : α → W) : ∀ {xs : List α} {x : α}, (xs.map f).Nodup → x ∈ xs → lk (xs.map fun x => ((.inr (f x) : Key), g x)) (.inr (f x)) = some (g x)
  | y :: ys, x, nd, h => by
    rw [List.map_cons] at nd ⊢
    obtain ⟨n1, n2⟩ := List.nodup_cons.mp nd
    rcases List.mem_cons.mp h with rfl | h
    · exact lk_pos (p := ((Sum.inr (f x) : Key), g x)) rfl
    · rw [lk_neg (p := ((Sum.inr (f y) : Key), g y)) (fun e => n1 (by have := Sum.inr.inj e; rw [this]; exact List.mem_map.mpr ⟨x, h, rfl⟩))]
      exact lk_at f g n2 h
theorem any_key {α : Type} (f : α → Str) (g : α → W) (t : Str) : ∀ xs : List α, ((xs.map fun x => ((.inr (f x) : Key), g x)).any fun kv => decide (kv.1 = .inr t)) = decide (t ∈ xs.map f)
  | [] => by simp
  | x :: xs => by
    rw [List.map_cons, List.any_cons, any_key f g t xs, List.map_cons]
    by_cases e : f x = t
    · subst e; simp
    · have h1 : ¬ ((.inr (f x) : Key) = .inr t) := fun z => e (Sum.inr.inj z)
      have h2 : ¬ t = f x := fun z => e z.symm
      simp [h1, h2]
theorem pt_new {α : Type} (f : α → Str) (g : α → W) {xs : List α} {t : Str} {w : W} (h : t ∉ xs.map f) : pt (xs.map fun x => ((.inr (f x) : Key), g x)) (.inr t) w = (xs.map fun x => ((.inr (f x) : Key), g x)) ++ [(.inr t, w)] := by
  unfold pt
  rw [any_key, decide_eq_false h]
  rfl
end Y
namespace Y
open PySem L2
/-! ### comprehensions with a test -/
theorem compW_filtA {α : Type} {ct : CT} {cond : DT} {elt : DE} {st : S} {a b : α → W} {q : α → Bool} {k : List W → S → Prop} : ∀ (xs : List α) (acc : List W), (∀ x ∈ xs, Turn' ct cond elt st (fun _ => if q x = true then some (b x) else none) (a x)) → acc.length + xs.length ≤ sizeLine → k (acc ++ (xs.filter q).map b) st → compW ct cond elt (xs.map a) acc st k
  | [], acc, _, _, h => by rw [List.filter_nil, List.map_nil, List.append_nil] at h; exact h
  | x :: xs, acc, ht, hl, h => by
    rw [List.length_cons] at hl
    refine ht x List.mem_cons_self (fun v st' => acc.length < sizeLine ∧ compW ct cond elt (xs.map a) (acc ++ [v]) st' k) (fun st' => compW ct cond elt (xs.map a) acc st' k) ?_
    by_cases e : q x = true
    · rw [if_pos e]
      rw [List.filter_cons_of_pos e, List.map_cons] at h
      refine ⟨by omega, compW_filtA xs (acc ++ [b x]) (fun u hu => ht u (List.mem_cons_of_mem _ hu)) (by rw [List.length_append, List.length_singleton]; omega) ?_⟩
      rw [List.append_assoc]
      exact h
    · rw [if_neg e]
      rw [List.filter_cons_of_neg e] at h
      exact compW_filtA xs acc (fun u hu => ht u (List.mem_cons_of_mem _ hu)) (by omega) h
theorem compW_filt {α : Type} {ct : CT} {cond : DT} {elt : DE} {st : S} {a b : α → W} (q : α → Bool) {k : List W → S → Prop} {xs : List α} (ht : ∀ x ∈ xs, Turn' ct cond elt st (fun _ => if q x = true then some (b x) else none) (a x)) (hl : xs.length ≤ sizeLine) (h : k ((xs.filter q).map b) st) : compW ct cond elt (xs.map a) [] st k :=
  compW_filtA xs [] ht (by rw [List.length_nil, Nat.zero_add]; exact hl) (by rw [List.nil_append]; exact h)
theorem sz {n : Nat} (h : n < 64) : n ≤ sizeLine := Nat.le_trans (show n ≤ 64 by omega) (by decide)
theorem szt {n : Nat} (h : n < 64) : n < sizeLine := Nat.lt_of_lt_of_le h (by decide)
/-- a test of one turn -/
theorem brq {q : Bool} {A' : W → Prop} {B' : Prop} {v : W} (h : match (if q = true then some v else none : Option W) with | some v => A' v | none => B') : (q = true → A' v) ∧ (q = false → B') := by
  cases q with
  | true => exact ⟨fun _ => h, (fun z => nomatch z)⟩
  | false => exact ⟨(fun z => nomatch z), fun _ => h⟩
theorem enW_at {α : Type} (f : α → W) {xs : List α} {j : Nat} {w : W} (h : (enW (xs.map f))[j]? = some w) : ∃ x, xs[j]? = some x ∧ w = .tup [.int (j : Nat), f x] := by
  unfold enW at h
  rw [List.getElem?_mapIdx, List.getElem?_map] at h
  cases q : xs[j]? with
  | none => rw [q] at h; cases h
  | some x => rw [q] at h; cases h; exact ⟨x, rfl, rfl⟩

/-! ### spans -/
def c_Span___init__ : Ct := fun ts k _ => ∃ a m, ts = [.ins 0 [], .fz a, .fz m] ∧ k (.fz .non) [.ins 0 [.fz a, .fz (orW a m)], .fz a, .fz m]
/-- Span.__init__ -/
def d_Span___init__ : DS := (dSeq (dFSto 0 0 0 (wE (dVar 1)))
  (dFSto 0 0 1 (wE (dIfE (dTest (dUn oIsN (dVar 2))) (dVar 1) (dVar 2)))))
theorem m_Span___init__ : Meets c_Span___init__ 3 0 d_Span___init__ := by
  intro ts k kx h
  obtain ⟨a, m, rfl, hk⟩ := h
  refine ⟨rfl, rfl, Nat.zero_le _, ?_⟩
  cases m with
  | non => exact ye ⟨rfl, Nat.le_refl _, hk⟩
  | _ => exact no ⟨rfl, Nat.le_refl _, hk⟩
def c_Span_plus : Ct := fun ts k _ => ∃ p q : Int × Int, ts = [.fz (spW p), .fz (spW q)] ∧ k (.fz (spW (p.1 + q.1, p.2 + q.2))) ts
/-- Span.plus -/
def d_Span_plus : DS := (dRet (dLk (dMakeU c_Span___init__ 0 [.u 0, .u 1] [(.non)] 2 0 (aCons (dOp oPlus (dFld 0 0 (dVar 0)) (dFld 0 0 (dVar 1))) (aCons (dOp oPlus (dFld 0 1 (dVar 0)) (dFld 0 1 (dVar 1))) aNil)) aNil)))
theorem m_Span_plus : Meets c_Span_plus 2 0 d_Span_plus := by
  intro ts k kx h
  obtain ⟨p, q, rfl, hk⟩ := h
  exact ⟨rfl, rfl, _, rfl, rfl, _, rfl, rfl, _, rfl, rfl, _, rfl, rfl, _, _, rfl, hk⟩

/-! ### Sheet -/
/-- its gives are these, whether it is made yet or not -/
def HasG (t : T) (gs : List Give) : Prop := (∃ w, t = .fz (.ins 4 [.lst (gs.map giveS), w])) ∨ ∃ u, t = .ins 4 [.fz (.lst (gs.map giveS)), u]
def c_Sheet_homes : Ct := fun ts k _ => ∃ t gs, ts = [t] ∧ HasG t gs ∧ gs.length < 64 ∧ k (.fz (txL (srtU (homesOf gs)))) ts
/-- Sheet.homes -/
def d_Sheet_homes : DS := (dRet (dFz (lSortSet (dFz (lComp (iSq (dFld 4 0 (dVar 0))) (.one 1) tYes' (dOp oSub' (dVar 1) (dC (.int 0))))))))
theorem m_Sheet_homes : Meets c_Sheet_homes 1 1 d_Sheet_homes := by
  intro ts k kx h
  obtain ⟨t, gs, rfl, hg, hl, hk⟩ := h
  refine ⟨rfl, ?_⟩
  rcases hg with ⟨w, rfl⟩ | ⟨u, rfl⟩
  · refine ⟨rfl, _, rfl, compW_map (b := fun g : Give => .str g.1) (fun g _ A B h => ye ⟨_, rfl, h⟩) (sz hl) ?_⟩
    exact ⟨homesOf gs, by rw [List.map_map]; rfl, by rw [List.length_map]; exact hl, hk⟩
  · refine ⟨rfl, _, rfl, compW_map (b := fun g : Give => .str g.1) (fun g _ A B h => ye ⟨_, rfl, h⟩) (sz hl) ?_⟩
    exact ⟨homesOf gs, by rw [List.map_map]; rfl, by rw [List.length_map]; exact hl, hk⟩
/-! what is refused, and in which order -/
def dueMk (hs : List Str) : List Str → List Str → Option XW
  | _, [] => none
  | seen, m :: ms => if m ∈ seen then some ⟨11, [.str m]⟩ else if m ∈ hs then dueMk hs (seen ++ [m]) ms else some ⟨18, [.str m]⟩
def duePs (hs : List Str) : List Str → List Piece → Option XW
  | _, [] => none
  | seen, p :: ps => if p.1 ∈ seen then some ⟨11, [.str p.1]⟩ else match dueMk hs [] p.2.2 with
    | some e => some e
    | none => duePs hs (seen ++ [p.1]) ps
theorem dueMk_at {hs ms : List Str} {j : Nat} {m : Str} (h : ms[j]? = some m) : dueMk hs (ms.take j) (ms.drop j) = if m ∈ ms.take j then some ⟨11, [.str m]⟩ else if m ∈ hs then dueMk hs (ms.take (j + 1)) (ms.drop (j + 1)) else some ⟨18, [.str m]⟩ := by
  obtain ⟨hl, rfl⟩ := List.getElem?_eq_some_iff.mp h
  rw [List.drop_eq_getElem_cons hl]
  conv => lhs; unfold dueMk
  rw [List.take_succ, h]
  rfl
theorem duePs_at {hs : List Str} {ps : List Piece} {j : Nat} {p : Piece} (h : ps[j]? = some p) : duePs hs (titles (ps.take j)) (ps.drop j) = if p.1 ∈ titles (ps.take j) then some ⟨11, [.str p.1]⟩ else match dueMk hs [] p.2.2 with
    | some e => some e
    | none => duePs hs (titles (ps.take (j + 1))) (ps.drop (j + 1)) := by
  obtain ⟨hl, rfl⟩ := List.getElem?_eq_some_iff.mp h
  rw [List.drop_eq_getElem_cons hl]
  conv => lhs; unfold duePs
  rw [List.take_succ, h, show titles (ps.take j ++ (some ps[j]).toList) = titles (ps.take j) ++ [ps[j].1] by unfold titles; rw [List.map_append]; rfl]
theorem dueMk_eq {hs hs' : List Str} (h : ∀ x, x ∈ hs ↔ x ∈ hs') : ∀ (ms seen : List Str), dueMk hs seen ms = dueMk hs' seen ms
  | [], _ => rfl
  | m :: ms, seen => by
    unfold dueMk
    rw [dueMk_eq h ms]
    by_cases q : m ∈ hs
    · rw [if_pos q, if_pos ((h m).mp q)]
    · rw [if_neg q, if_neg fun z => q ((h m).mpr z)]
theorem duePs_eq {hs hs' : List Str} (h : ∀ x, x ∈ hs ↔ x ∈ hs') : ∀ (ps : List Piece) (seen : List Str), duePs hs seen ps = duePs hs' seen ps
  | [], _ => rfl
  | p :: ps, seen => by
    unfold duePs
    rw [dueMk_eq h, duePs_eq h ps]
theorem dueMk_none {hs : List Str} : ∀ (ms seen : List Str), (seen ++ ms).Nodup → (∀ m ∈ ms, m ∈ hs) → dueMk hs seen ms = none
  | [], _, _, _ => rfl
  | m :: ms, seen, nd, h => by
    unfold dueMk
    have h1 : ¬ m ∈ seen := fun z => by
      have := (List.nodup_append.mp nd).2.2 m z m (by simp)
      exact this rfl
    rw [if_neg h1, if_pos (h m (by simp))]
    exact dueMk_none ms (seen ++ [m]) (by rw [List.append_assoc]; exact nd) fun x hx => h x (by simp [hx])
theorem duePs_none {hs : List Str} : ∀ (ps : List Piece) (seen : List Str), (seen ++ titles ps).Nodup → (∀ p ∈ ps, p.2.2.Nodup ∧ ∀ m ∈ p.2.2, m ∈ hs) → duePs hs seen ps = none
  | [], _, _, _ => rfl
  | p :: ps, seen, nd, h => by
    unfold duePs
    have h1 : ¬ p.1 ∈ seen := fun z => by
      have := (List.nodup_append.mp nd).2.2 p.1 z p.1 (by simp [titles])
      exact this rfl
    rw [if_neg h1, dueMk_none p.2.2 [] (by rw [List.nil_append]; exact (h p (by simp)).1) (h p (by simp)).2]
    exact duePs_none ps (seen ++ [p.1]) (by rw [List.append_assoc]; exact nd) fun x hx => h x (by simp [hx])
theorem cut_takeT {ns : List Str} {j : Nat} (h : j ≤ ns.length) : cutW (ns.map W.str) none (some ((j : Nat) : Int)) = (ns.take j).map W.str := by
  unfold cutW
  rw [HT.sIx_none, HT.sIx_nat, List.length_map, Nat.min_eq_left h, List.drop_zero, Nat.sub_zero, List.map_take]
abbrev pieceQ (p : Piece) : W := .tup [.str p.1, spW p.2.1, txT p.2.2]
def c_Sheet_look_at : Ct := fun ts k kx => ∃ t gs ms, ts = [t, .fz (txT ms)] ∧ HasG t gs ∧ gs.length < 64 ∧ ms.length < 64 ∧ (dueMk (homesOf gs) [] ms = none → k (.fz .non) ts) ∧ ∀ e, dueMk (homesOf gs) [] ms = some e → kx e ts
/-- Sheet.look_at -/
def d_Sheet_look_at : DS := (dSeq (dAsg 2 (dOf (dMethU c_Sheet_homes 4 [] [] 0 0 (dVar 0) aNil aNil)))
  (dFor [3, 4] (iEn (aCons (dVar 1) aNil)) (gTn 2 (gsCons (gN 3) (gsCons (gN 4) gsNil)))
  (dSeq (dIf (dTest (dOp (oInX false) (dVar 4) (dCutS (dVar 1) oNone (oPart (dVar 3)))))
  (dRaise 11 (aCons (dVar 4) aNil))
  dNext)
  (dIf (dTest (dOp (oInX true) (dVar 4) (dVar 2)))
  (dRaise 18 (aCons (dVar 4) aNil))
  dNext))))
theorem m_Sheet_look_at : Meets c_Sheet_look_at 2 3 d_Sheet_look_at := by
  intro ts k kx h
  obtain ⟨t, gs, ms, rfl, hg, hl, hm, hk, hx⟩ := h
  have main : ∀ s : Sl, (∀ rest : S, outT [t, .fz (txT ms)] (s :: .lo (.fz (txT ms)) :: rest) 0 = some [t, .fz (txT ms)]) →
      (dFor [3, 4] (iEn (aCons (dVar 1) aNil)) (gTn 2 (gsCons (gN 3) (gsCons (gN 4) gsNil)))
  (dSeq (dIf (dTest (dOp (oInX false) (dVar 4) (dCutS (dVar 1) oNone (oPart (dVar 3)))))
  (dRaise 11 (aCons (dVar 4) aNil))
  dNext)
  (dIf (dTest (dOp (oInX true) (dVar 4) (dVar 2)))
  (dRaise 18 (aCons (dVar 4) aNil))
  dNext))) (endsOf [t, .fz (txT ms)] k kx) [s, .lo (.fz (txT ms)), .lo (.fz (txL (srtU (homesOf gs)))), .un, .un] := by
    intro s hs
    have ex : ∀ (e : XW) (y3 y4 : Sl), dueMk (homesOf gs) [] ms = some e → (endsOf [t, .fz (txT ms)] k kx).ex e [s, .lo (.fz (txT ms)), .lo (.fz (txL (srtU (homesOf gs)))), y3, y4] := fun e y3 y4 he => by
      show (match outT [t, .fz (txT ms)] [s, .lo (.fz (txT ms)), .lo (.fz (txL (srtU (homesOf gs)))), y3, y4] 0 with
        | some ts' => kx e ts'
        | none => False)
      rw [hs]
      exact hx e he
    refine for_ind (fun j st => j ≤ ms.length ∧ dueMk (homesOf gs) [] ms = dueMk (homesOf gs) (ms.take j) (ms.drop j) ∧ st = [s, .lo (.fz (txT ms)), .lo (.fz (txL (srtU (homesOf gs)))), .un, .un]) ⟨Nat.zero_le _, rfl, rfl⟩ ?_ ?_
    · rintro j w hw kk hkk st ⟨_, hj2, rfl⟩
      obtain ⟨m, hj, rfl⟩ := enW_at _ hw
      have hjl := (List.getElem?_eq_some_iff.mp hj).1
      rw [dueMk_at hj] at hj2
      refine ⟨rfl, rfl, decide (m ∈ ms.take j), ?_, ?_⟩
      · rw [cut_takeT (Nat.le_of_lt hjl)]
        exact inT m _
      refine br (fun e => ?_) fun e => ?_
      · rw [if_pos e] at hj2
        exact ⟨rfl, ex _ _ _ hj2⟩
      rw [if_neg e] at hj2
      refine ⟨_, inL m _, brn (fun e2 => ?_) fun e2 => ?_⟩
      · rw [if_neg fun z => e2 ((srtU_mem m _).mpr z)] at hj2
        exact ⟨rfl, ex _ _ _ hj2⟩
      · rw [if_pos ((srtU_mem m _).mp e2)] at hj2
        exact hkk _ ⟨hjl, hj2, rfl⟩
    · rintro st ⟨_, hj2, rfl⟩
      have e : outT [t, .fz (txT ms)] [s, .lo (.fz (txT ms)), .lo (.fz (txL (srtU (homesOf gs)))), .un, .un] 0 = some [t, .fz (txT ms)] := hs _
      show (match outT [t, .fz (txT ms)] [s, .lo (.fz (txT ms)), .lo (.fz (txL (srtU (homesOf gs)))), .un, .un] 0 with
        | some ts' => k (.fz .non) ts'
        | none => False)
      rw [e]
      refine hk (hj2.trans ?_)
      rw [show (enW (ms.map W.str)).length = ms.length by unfold enW; rw [List.length_mapIdx, List.length_map], List.drop_length]
      rfl
  rcases hg with ⟨w, rfl⟩ | ⟨u, rfl⟩
  · exact ⟨rfl, rfl, rfl, _, gs, rfl, .inl ⟨_, rfl⟩, hl, main _ fun _ => rfl⟩
  · exact ⟨rfl, rfl, rfl, _, gs, rfl, .inr ⟨_, rfl⟩, hl, main _ fun _ => rfl⟩
def c_Sheet___init__ : Ct := fun ts k kx => ∃ gs ps, ts = [.ins 4 [], .fz (.lst (gs.map giveS)), .fz (.lst (ps.map pieceQ))] ∧ gs.length < 64 ∧ ps.length < 64 ∧ (∀ p ∈ ps, p.2.2.length < 64) ∧
  (duePs (homesOf gs) [] ps = none → k (.fz .non) [.ins 4 [.fz (.lst (gs.map giveS)), .dK (ps.map rowS)], .fz (.lst (gs.map giveS)), .fz (.lst (ps.map pieceQ))]) ∧
  ∀ e t, duePs (homesOf gs) [] ps = some e → kx e [t, .fz (.lst (gs.map giveS)), .fz (.lst (ps.map pieceQ))]
/-- Sheet.__init__ -/
def d_Sheet___init__ : DS := (dSeq (dFSto 0 4 0 (wE (dFz (lComp (iOrN 1) (.one 6) tYes' (dCB cTuple (aCons (dVar 6) aNil))))))
  (dSeq (dFSto 0 4 1 (wD dNewK))
  (dFor [3, 4, 5] (iOrN 2) (gTn 3 (gsCons (gN 3) (gsCons (gN 4) (gsCons (gN 5) gsNil))))
  (dSeq (dIf (dTest (dFIn false 0 4 1 (dVar 3)))
  (dRaise 11 (aCons (dVar 3) aNil))
  dNext)
  (dSeq (dDropW (dMethU c_Sheet_look_at 4 [.u 0] [] 1 0 (dVar 0) (aCons (dVar 5) aNil) aNil))
  (dFPut 0 4 1 3 (dTup (aCons (dVar 4) (aCons (dCB cTuple (aCons (dVar 5) aNil)) aNil)))))))))
theorem m_Sheet___init__ : Meets c_Sheet___init__ 3 4 d_Sheet___init__ := by
  intro ts k kx h
  obtain ⟨gs, ps, rfl, gl, pl, pm, hk, hx⟩ := h
  refine ⟨rfl, compW_map (b := giveS) (fun g _ A B h => ye h) (sz gl) ⟨rfl, Nat.zero_le _, rfl, Nat.le_refl _, ?_⟩⟩
  refine for_ind (fun j st => j ≤ ps.length ∧ duePs (homesOf gs) [] ps = duePs (homesOf gs) (titles (ps.take j)) (ps.drop j) ∧ st = [.mp 0 (.ins 4 [.fz (.lst (gs.map giveS)), .dK ((ps.take j).map rowS)]), .lo (.fz (.lst (gs.map giveS))), .lo (.fz (.lst (ps.map pieceQ))), .un, .un, .un, .un]) ⟨Nat.zero_le _, rfl, rfl⟩ ?_ ?_
  · rintro j w hw kk hkk st ⟨_, hd, rfl⟩
    rw [List.getElem?_map] at hw
    obtain ⟨p, hj, rfl⟩ := Option.map_eq_some_iff.mp hw
    have hjl := (List.getElem?_eq_some_iff.mp hj).1
    have hpm := List.mem_of_getElem? hj
    rw [duePs_at hj] at hd
    refine ⟨rfl, rfl, rfl, ?_⟩
    show ((lk ((ps.take j).map rowS) (.inr p.1)).isSome = true → _) ∧ ((lk ((ps.take j).map rowS) (.inr p.1)).isSome = false → _)
    by_cases hn : p.1 ∈ titles (ps.take j)
    · obtain ⟨q, hq, e⟩ := List.mem_map.mp hn
      have e1 : (lk ((ps.take j).map rowS) (.inr p.1)).isSome = true := by
        cases z : lk ((ps.take j).map rowS) (.inr p.1) with
        | some _ => rfl
        | none =>
          unfold lk at z
          have := List.find?_eq_none.mp (Option.map_eq_none_iff.mp z) (rowS q) (List.mem_map.mpr ⟨q, hq, rfl⟩)
          exact absurd (decide_eq_true (show (rowS q).1 = .inr p.1 by rw [← e])) this
      rw [e1]
      rw [if_pos hn] at hd
      exact ye ⟨rfl, hx _ _ hd⟩
    rw [if_neg hn] at hd
    have e1 : lk ((ps.take j).map rowS) (.inr p.1) = none := lk_map (fun q : Piece => q.1) rowW hn
    rw [e1]
    refine no ⟨rfl, rfl, _, gs, p.2.2, rfl, .inr ⟨_, rfl⟩, gl, pm p hpm, fun dn => ?_, fun e de => ?_⟩
    · rw [dn] at hd
      refine ⟨lel 2 rfl, rfl, ?_, hkk _ ⟨hjl, hd, ?_⟩⟩
      · rw [List.length_map, List.length_take]
        exact Nat.lt_of_le_of_lt (Nat.min_le_right _ _) (szt pl)
      · have e2 : pt ((ps.take j).map rowS) (.inr p.1) (rowW p) = (ps.take (j + 1)).map rowS := by
          rw [List.take_succ, hj, List.map_append]
          exact pt_new (fun q : Piece => q.1) rowW hn
        show [Sl.mp 0 (.ins 4 [.fz (.lst (gs.map giveS)), .dK (pt ((ps.take j).map rowS) (.inr p.1) (rowW p))]), .lo _, .lo _, .un, .un, .un, .un] = _
        rw [e2]
    · rw [de] at hd
      exact hx _ _ hd
  · rintro st ⟨_, hd, rfl⟩
    rw [List.length_map, List.take_length] at *
    rw [List.drop_length] at hd
    exact hk hd
def c_Sheet_pieces : Ct := fun ts k _ => ∃ w ps, ts = [.fz (.ins 4 [w, .dF (ps.map rowS)])] ∧ k (.fz (txL (titles ps))) ts
/-- Sheet.pieces -/
def d_Sheet_pieces : DS := (dRet (dFz (lCB cListD (aCons (dFld 4 1 (dVar 0)) aNil))))
theorem m_Sheet_pieces : Meets c_Sheet_pieces 1 0 d_Sheet_pieces := by
  intro ts k kx h
  obtain ⟨w, ps, rfl, hk⟩ := h
  refine ⟨rfl, rfl, _, rfl, ?_⟩
  have e : (ps.map rowS).map (fun kv => keyW kv.1) = (titles ps).map W.str := by rw [List.map_map, List.map_map]; rfl
  show (endsOf _ k kx).rt (.fz (.lst ((ps.map rowS).map fun kv => keyW kv.1))) _
  rw [e]
  exact hk
def c_Sheet_given : Ct := fun ts k kx => ∃ gs w h, ts = [.fz (.ins 4 [.lst (gs.map giveS), w]), .fz (.str h)] ∧ gs.length < 64 ∧ ((h ∈ homesOf gs ∧ k (.fz (.lst ((gs.filter fun g => decide (g.1 = h)).map giveS))) ts) ∨ (¬ h ∈ homesOf gs ∧ kx ⟨18, [.str h]⟩ ts))
/-- Sheet.given -/
def d_Sheet_given : DS := (dSeq (dAsg 2 (dFz (lComp (iSq (dFld 4 0 (dVar 0))) (.one 3) (dTest (dOp (oEqX false) (dOp oSub' (dVar 3) (dC (.int 0))) (dVar 1))) (dVar 3))))
  (dSeq (dIf (dTest (dOp (oEqX false) (dCB cLen (aCons (dVar 2) aNil)) (dC (.int 0))))
  (dRaise 18 (aCons (dVar 1) aNil))
  dNext)
  (dRet (dVar 2))))
theorem m_Sheet_given : Meets c_Sheet_given 2 2 d_Sheet_given := by
  intro ts k kx h
  obtain ⟨gs, w, h, rfl, hl, hm⟩ := h
  refine ⟨rfl, rfl, _, rfl, compW_filt (b := giveS) (fun g => decide (g.1 = h)) (fun g _ A B hh => ⟨_, rfl, Or.inr ⟨decide (g.1 = h), rfl, brq hh⟩⟩) (sz hl) ?_⟩
  have hlen : (gs.filter fun g => decide (g.1 = h)).length ≤ gs.length := List.length_filter_le _ _
  rcases hm with ⟨hm, hk⟩ | ⟨hm, hk⟩
  · refine Or.inr ⟨_, rfl, br (fun e => ?_) fun _ => hk⟩
    obtain ⟨g, h1, h2⟩ := List.mem_map.mp hm
    have : g ∈ gs.filter fun g => decide (g.1 = h) := List.mem_filter.mpr ⟨h1, decide_eq_true h2⟩
    have := List.length_pos_of_mem this
    rw [List.length_map] at e
    exact (show False by omega).elim
  · have e0 : (gs.filter fun g => decide (g.1 = h)) = [] := List.filter_eq_nil_iff.mpr fun g hg z => hm (List.mem_map.mpr ⟨g, hg, of_decide_eq_true z⟩)
    rw [e0]
    refine Or.inr ⟨true, rfl, ye ?_⟩
    exact ⟨rfl, hk⟩
def c_Sheet_got : Ct := fun ts k kx => ∃ gs w h, ts = [.fz (.ins 4 [.lst (gs.map giveS), w]), .fz (.str h)] ∧ gs.length < 64 ∧ ((h ∈ homesOf gs ∧ k (.fz (spW (gotP gs h))) ts) ∨ (¬ h ∈ homesOf gs ∧ kx ⟨18, [.str h]⟩ ts))
/-- Sheet.got -/
def d_Sheet_got : DS := (dSeq (dAsg 2 (dLk (dMakeU c_Span___init__ 0 [.u 0, .d 0] [(.non)] 1 0 (aCons (dC (.int 0)) aNil) aNil)))
  (dSeq (dFor [3] (iSq (dOf (dMethU c_Sheet_given 4 [.u 0] [] 1 0 (dVar 0) (aCons (dVar 1) aNil) aNil))) (gN 3)
  (dAsg 2 (dOf (dMethU c_Span_plus 0 [.u 0] [] 1 0 (dVar 2) (aCons (dOp oSub' (dVar 3) (dC (.int 1))) aNil) aNil))))
  (dRet (dVar 2))))
theorem m_Sheet_got : Meets c_Sheet_got 2 2 d_Sheet_got := by
  intro ts k kx h
  obtain ⟨gs, w, h, rfl, hl, hm⟩ := h
  refine ⟨rfl, rfl, .int 0, .non, rfl, rfl, rfl, gs, w, h, rfl, hl, ?_⟩
  rcases hm with ⟨hm, hk⟩ | ⟨hm, hk⟩
  rotate_left
  · exact .inr ⟨hm, hk⟩
  refine .inl ⟨hm, ?_⟩
  unfold gotP at hk
  generalize (gs.filter fun g => decide (g.1 = h)) = fs at hk
  refine for_ind (fun j st => st = [.lo (.fz (.ins 4 [.lst (gs.map giveS), w])), .lo (.fz (.str h)), .lo (.fz (spW (((fs.take j).map (·.2.1.1)).sum, ((fs.take j).map (·.2.1.2)).sum))), .un]) rfl ?_ ?_
  · rintro j w' hw kk hkk st rfl
    rw [List.getElem?_map] at hw
    obtain ⟨g, hj, rfl⟩ := Option.map_eq_some_iff.mp hw
    refine ⟨rfl, _, rfl, rfl, _, g.2.1, rfl, hkk _ ?_⟩
    rw [sum_take (fun g : Give => g.2.1.1) hj, sum_take (fun g : Give => g.2.1.2) hj]
    rfl
  · rintro st rfl
    rw [List.length_map, List.take_length]
    exact hk
def c_Sheet_waste : Ct := fun ts k kx => ∃ gs w h, ts = [.fz (.ins 4 [.lst (gs.map giveS), w]), .fz (.str h)] ∧ gs.length < 64 ∧ ((h ∈ homesOf gs ∧ k (.fz (.int (wasteP gs h))) ts) ∨ (¬ h ∈ homesOf gs ∧ kx ⟨18, [.str h]⟩ ts))
/-- Sheet.waste -/
def d_Sheet_waste : DS := (dRet (dCB cSum (aCons (dFz (lComp (iSq (dOf (dMethU c_Sheet_given 4 [.u 0] [] 1 0 (dVar 0) (aCons (dVar 1) aNil) aNil))) (.one 2) tYes' (dOp oSub' (dVar 2) (dC (.int 2))))) aNil)))
theorem m_Sheet_waste : Meets c_Sheet_waste 2 1 d_Sheet_waste := by
  intro ts k kx h
  obtain ⟨gs, w, h, rfl, hl, hm⟩ := h
  have hlen : (gs.filter fun g => decide (g.1 = h)).length ≤ gs.length := List.length_filter_le _ _
  rcases hm with ⟨hm, hk⟩ | ⟨hm, hk⟩
  rotate_left
  · exact ⟨rfl, rfl, rfl, gs, w, h, rfl, hl, .inr ⟨hm, hk⟩⟩
  unfold wasteP at hk
  refine ⟨rfl, rfl, rfl, gs, w, h, rfl, hl, .inl ⟨hm, compW_map (b := fun g : Give => .int g.2.2) (fun g _ A B h => ye ⟨_, rfl, h⟩) (sz (by omega)) ?_⟩⟩
  refine ⟨(gs.filter fun g => decide (g.1 = h)).map (·.2.2), by rw [List.map_map]; rfl, ?_⟩
  exact hk
def c_Sheet_row_of : Ct := fun ts k kx => (∃ w ps p, ts = [.fz (.ins 4 [w, .dF (ps.map rowS)]), .fz (.str p.1)] ∧ (titles ps).Nodup ∧ p ∈ ps ∧ k (.fz (rowW p)) ts) ∨
  (∃ w ps t, ts = [.fz (.ins 4 [w, .dF (ps.map rowS)]), .fz (.str t)] ∧ ¬ t ∈ titles ps ∧ kx ⟨19, [.str t]⟩ ts)
/-- Sheet.row_of -/
def d_Sheet_row_of : DS := (dSeq (dIf (dTest (dOp (oInX true) (dVar 1) (dFld 4 1 (dVar 0))))
  (dRaise 19 (aCons (dVar 1) aNil))
  dNext)
  (dRet (dOp oSub' (dFld 4 1 (dVar 0)) (dVar 1))))
theorem m_Sheet_row_of : Meets c_Sheet_row_of 2 0 d_Sheet_row_of := by
  intro ts k kx h
  rcases h with ⟨w, ps, p, rfl, nd, hp, hk⟩ | ⟨w, ps, t, rfl, hn, hk⟩
  · have e : lk (ps.map rowS) (.inr p.1) = some (rowW p) := lk_at (fun q : Piece => q.1) rowW nd hp
    refine ⟨rfl, rfl, _, rfl, (lk (ps.map rowS) (.inr p.1)).isSome, rfl, ?_⟩
    show ((!(lk (ps.map rowS) (.inr p.1)).isSome) = true → _) ∧ ((!(lk (ps.map rowS) (.inr p.1)).isSome) = false → _)
    rw [e]
    exact no ⟨rfl, _, rfl, _, e, hk⟩
  · have e : lk (ps.map rowS) (.inr t) = none := lk_map (fun q : Piece => q.1) rowW hn
    refine ⟨rfl, rfl, _, rfl, (lk (ps.map rowS) (.inr t)).isSome, rfl, ?_⟩
    show ((!(lk (ps.map rowS) (.inr t)).isSome) = true → _) ∧ ((!(lk (ps.map rowS) (.inr t)).isSome) = false → _)
    rw [e]
    exact ye ⟨rfl, hk⟩
def c_Sheet_yarn : Ct := fun ts k kx => (∃ w ps p, ts = [.fz (.ins 4 [w, .dF (ps.map rowS)]), .fz (.str p.1)] ∧ (titles ps).Nodup ∧ p ∈ ps ∧ k (.fz (spW p.2.1)) ts) ∨
  (∃ w ps t, ts = [.fz (.ins 4 [w, .dF (ps.map rowS)]), .fz (.str t)] ∧ ¬ t ∈ titles ps ∧ kx ⟨19, [.str t]⟩ ts)
/-- Sheet.yarn -/
def d_Sheet_yarn : DS := (dRet (dOp oSub' (dOf (dMethU c_Sheet_row_of 4 [.u 0] [] 1 0 (dVar 0) (aCons (dVar 1) aNil) aNil)) (dC (.int 0))))
theorem m_Sheet_yarn : Meets c_Sheet_yarn 2 0 d_Sheet_yarn := by
  intro ts k kx h
  rcases h with ⟨w, ps, p, rfl, nd, hp, hk⟩ | ⟨w, ps, t, rfl, hn, hk⟩
  · exact ⟨rfl, rfl, rfl, .inl ⟨w, ps, p, rfl, nd, hp, _, rfl, hk⟩⟩
  · exact ⟨rfl, rfl, rfl, .inr ⟨w, ps, t, rfl, hn, hk⟩⟩
def c_Sheet_makers : Ct := fun ts k kx => (∃ w ps p, ts = [.fz (.ins 4 [w, .dF (ps.map rowS)]), .fz (.str p.1)] ∧ (titles ps).Nodup ∧ p ∈ ps ∧ k (.fz (txL p.2.2)) ts) ∨
  (∃ w ps t, ts = [.fz (.ins 4 [w, .dF (ps.map rowS)]), .fz (.str t)] ∧ ¬ t ∈ titles ps ∧ kx ⟨19, [.str t]⟩ ts)
/-- Sheet.makers -/
def d_Sheet_makers : DS := (dRet (dFz (lCB cList (aCons (dOp oSub' (dOf (dMethU c_Sheet_row_of 4 [.u 0] [] 1 0 (dVar 0) (aCons (dVar 1) aNil) aNil)) (dC (.int 1))) aNil))))
theorem m_Sheet_makers : Meets c_Sheet_makers 2 0 d_Sheet_makers := by
  intro ts k kx h
  rcases h with ⟨w, ps, p, rfl, nd, hp, hk⟩ | ⟨w, ps, t, rfl, hn, hk⟩
  · exact ⟨rfl, rfl, rfl, .inl ⟨w, ps, p, rfl, nd, hp, _, rfl, hk⟩⟩
  · exact ⟨rfl, rfl, rfl, .inr ⟨w, ps, t, rfl, hn, hk⟩⟩
def c_Sheet_made_by : Ct := fun ts k kx => ∃ gs ps h, ts = [.fz (sheetW gs ps), .fz (.str h)] ∧ gs.length < 64 ∧ (¬ h ∈ homesOf gs) ∧ kx ⟨18, [.str h]⟩ ts
/-- Sheet.made_by -/
def d_Sheet_made_by : DS := (dSeq (dDropW (dMethU c_Sheet_given 4 [.u 0] [] 1 0 (dVar 0) (aCons (dVar 1) aNil) aNil))
  (dRet (dFz (lComp (iKey (dFld 4 1 (dVar 0))) (.one 2) (dTest (dOp (oInX false) (dVar 1) (dOp oSub' (dOp oSub' (dFld 4 1 (dVar 0)) (dVar 2)) (dC (.int 1))))) (dVar 2)))))
theorem m_Sheet_made_by : Meets c_Sheet_made_by 2 1 d_Sheet_made_by := by
  intro ts k kx h
  obtain ⟨gs, ps, h, rfl, hl, hm, hk⟩ := h
  exact ⟨rfl, rfl, rfl, gs, _, h, rfl, hl, .inr ⟨hm, hk⟩⟩
end Y
namespace Y
open PySem L2
abbrev spanW (l m : Int) : W := .ins 0 [.int l, .int m]
abbrev c_Span___eq__ : Ct := cEq 0
/-- Span.__eq__ -/
def d_Span___eq__ : DS := (dRet (dAndV (dIsi (.i 0) (dVar 1)) (dOp oEq (dTup (aCons (dFld 0 0 (dVar 0)) (aCons (dFld 0 1 (dVar 0)) aNil))) (dTup (aCons (dFld 0 0 (dVar 1)) (aCons (dFld 0 1 (dVar 1)) aNil))))))
theorem m_Span___eq__ : Meets c_Span___eq__ 2 0 d_Span___eq__ := by
  intro ts k kx h
  obtain ⟨fs, o, r, rfl, he, hk⟩ := h
  refine ⟨rfl, ?_⟩
  cases o with
  | ins c gs =>
    by_cases hc : 0 = c
    · subst hc
      replace he : eqF 0 fs gs = some r := he
      unfold eqF at he
      split at he
      · cases he
        rename_i a b a' b' _
        refine ye ⟨rfl, _, rfl, rfl, _, rfl, lel 2 rfl, rfl, _, rfl, rfl, _, rfl, lel 2 rfl, _, _, rfl, rfl, rfl, rfl, ?_⟩
        have e : PyData.eqv (.tuple [.int a, .int b]) (.tuple [.int a', .int b']) = (decide (a = a') && decide (b = b')) := by
          show ((a == a') && ((b == b') && true)) = _
          rw [Bool.and_true]
          rfl
        show (endsOf _ k kx).rt (.fz (.bl (PyData.eqv (.tuple [.int a, .int b]) (.tuple [.int a', .int b'])))) _
        rw [e]
        exact hk
      · exact absurd ‹0 = 1› (by decide)
      · exact absurd ‹0 = 2› (by decide)
      · exact absurd ‹0 = 3› (by decide)
      · cases he
    · have e : (c == 0) = false := by simpa using fun h => hc h.symm
      replace he : (if 0 = c then eqF 0 fs gs else some false) = some r := he
      rw [if_neg hc] at he
      cases he
      show ((c == 0) = true → _) ∧ ((c == 0) = false → _)
      rw [e]
      exact no hk
  | non => cases he; exact no hk
  | bl _ => cases he; exact no hk
  | int _ => cases he; exact no hk
  | str _ => cases he; exact no hk
  | tup _ => cases he; exact no hk
  | lst _ => cases he; exact no hk
  | _ => cases he
def spanS (l m : Int) : Str := if l = m then intS l else intS l ++ Str.ofString " to " ++ intS m
def spanR (l m : Int) : Str := Str.ofString "Span(" ++ intS l ++ Str.ofString ", " ++ intS m ++ Str.ofString ")"
def c_Span___len__ : Ct := fun ts k _ => ∃ l m : Int, ts = [.fz (spanW l m)] ∧ m + 1 - l < 2 ^ 63 ∧ k (.fz (.int (rgN l (m + 1)))) ts
/-- Span.__len__ -/
def d_Span___len__ : DS := (dRet (dLenRg2 (dFld 0 0 (dVar 0)) (dOp oPlus (dFld 0 1 (dVar 0)) (dC (.int 1)))))
theorem m_Span___len__ : Meets c_Span___len__ 1 0 d_Span___len__ := by
  intro ts k kx h
  obtain ⟨l, m, rfl, hb, hk⟩ := h
  exact ⟨rfl, rfl, _, rfl, rfl, _, rfl, hb, hk⟩
def c_Span___str__ : Ct := fun ts k _ => ∃ l m : Int, ts = [.fz (spanW l m)] ∧ Sm l ∧ Sm m ∧ k (.fz (.str (spanS l m))) ts
/-- Span.__str__ -/
def d_Span___str__ : DS := (dSeq (dIf (dTest (dOp (oEqX false) (dFld 0 0 (dVar 0)) (dFld 0 1 (dVar 0))))
  (dRet (dFmt (dFld 0 0 (dVar 0))))
  dNext)
  (dRet (dJn [(dFmt (dFld 0 0 (dVar 0))), (dC (.str " to ")), (dFmt (dFld 0 1 (dVar 0)))] Str.empty)))
theorem m_Span___str__ : Meets c_Span___str__ 1 0 d_Span___str__ := by
  intro ts k kx h
  obtain ⟨l, m, rfl, hl, hm, hk⟩ := h
  have l1 := hl.len
  have l2 := hm.len
  unfold spanS at hk
  refine ⟨rfl, rfl, _, rfl, rfl, _, rfl, eqo rfl (br (fun e => ?_) fun e => ?_)⟩
  · rw [if_pos e] at hk
    exact ⟨rfl, _, rfl, hl.lg, hk⟩
  · rw [if_neg e] at hk
    have s1 := sl_nil.app hl.sl
    have s2 := s1.app (sl_lit (s := " to ") 4 (by decide +kernel))
    have s3 := s2.app hm.sl
    refine ⟨rfl, _, rfl, hl.lg, s1.line rfl, s2.line rfl, rfl, _, rfl, hm.lg, s3.line rfl, ?_⟩
    rw [app_nil]
    exact hk
def c_Span___repr__ : Ct := fun ts k _ => ∃ l m : Int, ts = [.fz (spanW l m)] ∧ Sm l ∧ Sm m ∧ k (.fz (.str (spanR l m))) ts
/-- Span.__repr__ -/
def d_Span___repr__ : DS := (dRet (dJn [(dC (.str "Span(")), (dFmt (dFld 0 0 (dVar 0))), (dC (.str ", ")), (dFmt (dFld 0 1 (dVar 0))), (dC (.str ")"))] Str.empty))
theorem m_Span___repr__ : Meets c_Span___repr__ 1 0 d_Span___repr__ := by
  intro ts k kx h
  obtain ⟨l, m, rfl, hl, hm, hk⟩ := h
  have s0 := sl_nil.app (sl_lit (s := "Span(") 5 (by decide +kernel))
  have s1 := s0.app hl.sl
  have s2 := s1.app (sl_lit (s := ", ") 2 (by decide +kernel))
  have s3 := s2.app hm.sl
  have s4 := s3.app (sl_lit (s := ")") 1 (by decide +kernel))
  refine ⟨rfl, s0.line rfl, rfl, _, rfl, hl.lg, s1.line rfl, s2.line rfl, rfl, _, rfl, hm.lg, s3.line rfl, s4.line rfl, ?_⟩
  rw [app_nil]
  exact hk
end Y
namespace Y
open PySem L2
theorem lt65 {k : Nat} {A : Around} (r : Room k A) : A.units + 65 < cLine := by have := r.un; omega
/-! ### sheets drawn, spoilt, and what is due -/
theorem erase_cons {α : Type} {m : α} : ∀ {ls : List α} {j : Nat}, ls[j]? = some m → (m :: ls.eraseIdx j).Perm ls
  | [], j, h => by simp at h
  | x :: ls, 0, h => by simp at h; subst h; exact .refl _
  | x :: ls, j + 1, h => by
    have := erase_cons (ls := ls) (j := j) (by simpa using h)
    show (m :: x :: ls.eraseIdx j).Perm (x :: ls)
    exact (List.Perm.swap x m _).trans (this.cons x)
theorem erase_map {α β : Type} (f : α → β) : ∀ (ls : List α) (j : Nat), (ls.map f).eraseIdx j = (ls.eraseIdx j).map f
  | [], _ => rfl
  | x :: ls, 0 => rfl
  | x :: ls, j + 1 => by
    show f x :: (ls.map f).eraseIdx j = _
    rw [erase_map f ls j]
    rfl
theorem erase_perm {α : Type} {fs ls hs : List α} {m : α} {j : Nat} (h : (fs ++ ls).Perm hs) (hj : ls[j]? = some m) : ((fs ++ [m]) ++ ls.eraseIdx j).Perm hs := by
  refine List.Perm.trans ?_ h
  rw [List.append_assoc]
  exact List.Perm.append_left fs (erase_cons hj)
theorem seqIx {i n : Nat} (h : i < n) : seqIndex? (i : Int) n = some i := by
  unfold seqIndex?
  have h1 : ¬ ((i : Int) < 0) := by omega
  simp only [h1, if_false]
  rw [if_pos (by simp; omega)]
  simp
theorem pick4i (a b c d : Int) {i : Int} (h0 : 0 ≤ i) (h1 : i < 4) : ∃ x : Int, L2.atI [W.int a, .int b, .int c, .int d] i = some (.int x) := by
  rcases (show i = 0 ∨ i = 1 ∨ i = 2 ∨ i = 3 by omega) with rfl | rfl | rfl | rfl
  · exact ⟨a, rfl⟩
  · exact ⟨b, rfl⟩
  · exact ⟨c, rfl⟩
  · exact ⟨d, rfl⟩
theorem pick3i (a b c : Int) {i : Int} (h0 : 0 ≤ i) (h1 : i < 3) : ∃ x : Int, L2.atI [W.int a, .int b, .int c] i = some (.int x) := by
  rcases (show i = 0 ∨ i = 1 ∨ i = 2 by omega) with rfl | rfl | rfl
  · exact ⟨a, rfl⟩
  · exact ⟨b, rfl⟩
  · exact ⟨c, rfl⟩
theorem szM {n : Nat} (h : n ≤ 1000) : n ≤ sizeLine := Nat.le_trans h (by decide)
theorem szN {n : Nat} (h : n ≤ 1000) : n < sizeLine := Nat.lt_of_le_of_lt h (by decide)
def c__law_ends : Ct := fun ts k _ => ∃ (n : Nat) (p : Pen), ts = [penT p, .fz (.int 9)] ∧ PenB n p ∧ n ≤ 10000000 ∧ ∀ (s : Int × Int) p', PenB (n + 4) p' → k (.fz (prI s)) [penT p', .fz (.int 9)]
/-- _law_ends -/
def d__law_ends : DS := (dSeq (dAsg 2 (dOf (dCallU c__law_draw [.u 0, .u 1] [] 2 0 (aCons (dVar 0) (aCons (dVar 1) aNil)) aNil)))
  (dRet (dTup (aCons (dVar 2) (aCons (dOp oPlus (dVar 2) (dOp oSub' (dFz (lDisp (aCons (dC (.int 0)) (aCons (dC (.int 0)) (aCons (dOf (dCallU c__law_draw [.u 0, .u 1] [] 2 0 (aCons (dVar 0) (aCons (dC (.int 3)) aNil)) aNil)) (aCons (dOf (dCallU c__law_draw [.u 0, .u 1] [] 2 0 (aCons (dVar 0) (aCons (dVar 1) aNil)) aNil)) aNil)))))) (dOf (dCallU c__law_draw [.u 0, .u 1] [] 2 0 (aCons (dVar 0) (aCons (dC (.int 4)) aNil)) aNil)))) aNil)))))
theorem m__law_ends : Meets c__law_ends 2 1 d__law_ends := by
  intro ts k kx h
  obtain ⟨n, p, rfl, hp, hn, hk⟩ := h
  refine ⟨rfl, rfl, n, p, 9, rfl, hp, by omega, by decide, by decide, fun d p1 a1 b1 hp1 => ?_⟩
  refine ⟨rfl, _, p1, 3, rfl, hp1, by omega, by decide, by decide, fun d2 p2 a2 b2 hp2 => ?_⟩
  refine ⟨rfl, _, p2, 9, rfl, hp2, by omega, by decide, by decide, fun d3 p3 a3 b3 hp3 => ⟨lel 4 rfl, ?_⟩⟩
  refine ⟨rfl, _, p3, 4, rfl, hp3, by omega, by decide, by decide, fun d4 p4 a4 b4 hp4 => ?_⟩
  obtain ⟨x, hx⟩ := pick4i 0 0 d2 d3 a4 b4
  exact ⟨_, hx, lel 2 rfl, hk (d, d + x) p4 hp4⟩
def c__law_gives : Ct := fun ts k _ => ∃ (n : Nat) (p : Pen) (ns : List Str), ts = [penT p, .fz (txL ns), .fz (.int 9)] ∧ PenB n p ∧ n ≤ 1000000 ∧ ns.length ≤ 5 ∧
  ∀ (gs : List Give) p', (∀ x, x ∈ homesOf gs ↔ x ∈ ns) → gs.length ≤ 10 → PenB (n + 200) p' → k (.fz (.lst (gs.map giveW))) [penT p', .fz (txL ns), .fz (.int 9)]
/-- _law_gives -/
def d__law_gives : DS := (dSeq (dAsgO 3 (lDisp aNil))
  (dSeq (dForV [4, 5, 6] (dVar 1) (gN 4)
  (dFor [5, 6] (iRg1 (aCons (dOp oPlus (dC (.int 1)) (dOf (dCallU c__law_draw [.u 0, .u 1] [] 2 0 (aCons (dVar 0) (aCons (dC (.int 2)) aNil)) aNil))) aNil)) (gN 5)
  (dSeq (dAsg 6 (dTup (aCons (dVar 4) (aCons (dOf (dCallU c__law_ends [.u 0, .u 1] [] 2 0 (aCons (dVar 0) (aCons (dVar 2) aNil)) aNil)) (aCons (dOp oSub' (dFz (lDisp (aCons (dC (.int 0)) (aCons (dOf (dCallU c__law_draw [.u 0, .u 1] [] 2 0 (aCons (dVar 0) (aCons (dC (.int 3)) aNil)) aNil)) (aCons (dOf (dCallU c__law_draw [.u 0, .u 1] [] 2 0 (aCons (dVar 0) (aCons (dVar 2) aNil)) aNil)) aNil))))) (dOf (dCallU c__law_draw [.u 0, .u 1] [] 2 0 (aCons (dVar 0) (aCons (dC (.int 3)) aNil)) aNil))) aNil)))))
  (dExpr (dMutL fInsert (dVar 3) (aCons (dOf (dCallU c__law_draw [.u 0, .u 1] [] 2 0 (aCons (dVar 0) (aCons (dOp oPlus (dCB cLen (aCons (dVar 3) aNil)) (dC (.int 1))) aNil)) aNil)) (aCons (dVar 6) aNil)))))))
  (dRetF (dVar 3))))
theorem homes_ins {gs : List Give} {g : Give} {i : Nat} {x : Str} : x ∈ homesOf (gs.take i ++ [g] ++ gs.drop i) ↔ x ∈ homesOf gs ∨ x = g.1 := by
  unfold homesOf
  rw [List.map_append, List.map_append, List.mem_append, List.mem_append]
  have h : x ∈ gs.map (·.1) ↔ x ∈ (gs.take i).map (·.1) ∨ x ∈ (gs.drop i).map (·.1) := by
    rw [← List.mem_append, ← List.map_append, List.take_append_drop]
  have h1 : x ∈ [g].map (·.1) ↔ x = g.1 := by simp
  rw [h, h1]
  constructor
  · rintro ((a | a) | a)
    · exact .inl (.inl a)
    · exact .inr a
    · exact .inl (.inr a)
  · rintro ((a | a) | a)
    · exact .inl (.inl a)
    · exact .inr a
    · exact .inl (.inr a)
theorem m__law_gives : Meets c__law_gives 3 4 d__law_gives := by
  intro ts k kx h
  obtain ⟨n, p, ns, rfl, hp, hn, hl, hk⟩ := h
  refine ⟨rfl, lel 0 rfl, ?_⟩
  refine for_ind (fun j st => ∃ (gs : List Give) (p' : Pen), (∀ x, x ∈ homesOf gs ↔ x ∈ ns.take j) ∧ gs.length ≤ 2 * j ∧ PenB (n + 40 * j) p' ∧ st = [.mp 0 (penT p'), .lo (.fz (txL ns)), .lo (.fz (.int 9)), .lo (.lst (gs.map giveW)), .un, .un, .un]) ⟨[], p, by simp [homesOf], Nat.zero_le _, hp, rfl⟩ ?_ ?_
  · rintro j w hw kk hkk st ⟨gs, p', hh, gl, hp', rfl⟩
    rw [List.getElem?_map] at hw
    obtain ⟨x, hj, rfl⟩ := Option.map_eq_some_iff.mp hw
    have hjl := (List.getElem?_eq_some_iff.mp hj).1
    refine ⟨rfl, _, p', 2, rfl, hp', by omega, by decide, by decide, fun d p1 a1 b1 hp1 => ?_⟩
    refine ⟨⟨by omega, by omega⟩, ?_⟩
    have ht : ∀ y, y ∈ ns.take (j + 1) ↔ y ∈ ns.take j ∨ y = x := fun y => by
      rw [List.take_succ, hj, List.mem_append]
      simp
    refine for_ind (fun i st => ∃ (gs' : List Give) (p' : Pen), (∀ y, y ∈ homesOf gs' ↔ y ∈ homesOf gs ∨ (0 < i ∧ y = x)) ∧ gs'.length ≤ gs.length + i ∧ PenB (n + 40 * j + 1 + 10 * i) p' ∧ st = [.mp 0 (penT p'), .lo (.fz (txL ns)), .lo (.fz (.int 9)), .lo (.lst (gs'.map giveW)), .lo (.fz (.str x)), .un, .un]) ⟨gs, p1, fun y => by simp, Nat.le_refl _, hp1, rfl⟩ ?_ ?_
    · rintro i w hw kk2 hkk2 st ⟨gs', p2, hh2, gl2, hp2, rfl⟩
      have hi : i < 2 := by
        have := (List.getElem?_eq_some_iff.mp hw).1
        rw [List.length_map, List.length_range] at this
        omega
      rw [List.getElem?_map] at hw
      obtain ⟨i', _, rfl⟩ := Option.map_eq_some_iff.mp hw
      refine ⟨rfl, _, p2, rfl, hp2, by omega, fun s p3 hp3 => ?_⟩
      refine ⟨rfl, _, p3, 3, rfl, hp3, by omega, by decide, by decide, fun d2 p4 a4 b4 hp4 => ?_⟩
      refine ⟨rfl, _, p4, 9, rfl, hp4, by omega, by decide, by decide, fun d3 p5 a5 b5 hp5 => ⟨lel 3 rfl, ?_⟩⟩
      refine ⟨rfl, _, p5, 3, rfl, hp5, by omega, by decide, by decide, fun d4 p6 a6 b6 hp6 => ?_⟩
      obtain ⟨u, hu⟩ := pick3i 0 d2 d3 a6 b6
      have e1 : ((gs'.map giveW).length : Int) = (gs'.length : Int) := by rw [List.length_map]
      refine ⟨_, hu, lel 3 rfl, rfl, _, p6, (gs'.map giveW).length + 1, rfl, hp6, by omega, by omega, by omega, fun e p7 a7 b7 hp7 => ?_⟩
      obtain ⟨q, rfl⟩ : ∃ q : Nat, e = q := ⟨e.toNat, by omega⟩
      refine ⟨⟨by rw [List.length_map]; exact szN (by omega), by omega, by omega⟩, hkk2 _ ⟨gs'.take q ++ [(x, s, u)] ++ gs'.drop q, p7, fun y => ?_, ?_, hp7.mono (by omega), ?_⟩⟩
      · rw [homes_ins, hh2]
        constructor
        · rintro ((a | ⟨_, a⟩) | a)
          · exact .inl a
          · exact .inr ⟨Nat.succ_pos _, a⟩
          · exact .inr ⟨Nat.succ_pos _, a⟩
        · rintro (a | ⟨_, a⟩)
          · exact .inl (.inl a)
          · exact .inr a
      · rw [List.length_append, List.length_append, List.length_take, List.length_drop, List.length_singleton]; omega
      · rw [List.map_append, List.map_append, List.map_take, List.map_drop]
        rfl
    · rintro st ⟨gs', p2, hh2, gl2, hp2, rfl⟩
      rw [List.length_map, List.length_range] at hh2 gl2 hp2
      refine hkk _ ⟨gs', p2, fun y => ?_, by omega, hp2.mono (by omega), rfl⟩
      rw [hh2, hh, ht]
      constructor
      · rintro (a | ⟨_, a⟩)
        · exact .inl a
        · exact .inr a
      · rintro (a | a)
        · exact .inl a
        · exact .inr ⟨by omega, a⟩
  · rintro st ⟨gs, p', hh, gl, hp', rfl⟩
    rw [List.length_map] at hh gl hp'
    rw [List.take_length] at hh
    exact hk gs p' hh (by omega) (hp'.mono (by omega))
def c__law_makers : Ct := fun ts k _ => ∃ (n : Nat) (p : Pen) (hs : List Str), ts = [penT p, .fz (txL hs)] ∧ PenB n p ∧ n ≤ 10000000 ∧ 1 ≤ hs.length ∧ hs.length ≤ 5 ∧ hs.Nodup ∧
  ∀ (ms : List Str) p', ms.Nodup → ms ≠ [] → ms.length ≤ 4 → (∀ m ∈ ms, m ∈ hs) → PenB (n + 12) p' → k (.fz (txT ms)) [penT p', .fz (txL hs)]
/-- _law_makers -/
def d__law_makers : DS := (dSeq (dAsgO 2 (lCB cList (aCons (dVar 1) aNil)))
  (dSeq (dAsgO 3 (lDisp (aCons (dMutL (fun us xs k => us ≠ [] ∧ fPop us xs k) (dVar 2) (aCons (dOf (dCallU c__law_draw [.u 0, .u 1] [] 2 0 (aCons (dVar 0) (aCons (dCB cLen (aCons (dVar 2) aNil)) aNil)) aNil)) aNil)) aNil)))
  (dSeq (dFor [4] (iRg1 (aCons (dOf (dCallU c__law_draw [.u 0, .u 1] [] 2 0 (aCons (dVar 0) (aCons (dC (.int 4)) aNil)) aNil)) aNil)) (gN 4)
  (dIf (dAnd (dTest (dOp (oEqX true) (dVar 2) (dFz (lDisp aNil)))) (dTest (dOp (oEqX false) (dOf (dCallU c__law_draw [.u 0, .u 1] [] 2 0 (aCons (dVar 0) (aCons (dC (.int 2)) aNil)) aNil)) (dC (.int 0)))))
  (dExpr (dMutL fAppend (dVar 3) (aCons (dMutL (fun us xs k => us ≠ [] ∧ fPop us xs k) (dVar 2) (aCons (dOf (dCallU c__law_draw [.u 0, .u 1] [] 2 0 (aCons (dVar 0) (aCons (dCB cLen (aCons (dVar 2) aNil)) aNil)) aNil)) aNil)) aNil)))
  dNext))
  (dRet (dCB cTuple (aCons (dVar 3) aNil))))))
theorem m__law_makers : Meets c__law_makers 2 3 d__law_makers := by
  intro ts k kx h
  obtain ⟨n, p, hs, rfl, hp, hn, h1, h2, nd, hk⟩ := h
  have e0 : ((hs.map W.str).length : Int) = (hs.length : Int) := by rw [List.length_map]
  refine ⟨rfl, rfl, _, p, (hs.map W.str).length, rfl, hp, by omega, by omega, by omega, fun d p1 a1 b1 hp1 => ?_⟩
  obtain ⟨i, rfl⟩ : ∃ i : Nat, d = i := ⟨d.toNat, by omega⟩
  have hil : i < hs.length := by omega
  obtain ⟨m, hm⟩ : ∃ m, hs[i]? = some m := ⟨hs[i], List.getElem?_eq_getElem hil⟩
  refine ⟨(fun z => nomatch z), i, .str m, ⟨by omega, by omega⟩, ?_, ?_, lel 1 rfl, ?_⟩
  · rw [List.length_map]
    exact seqIx hil
  · rw [List.getElem?_map, hm]
    rfl
  have pm0 := erase_perm (fs := []) (by rw [List.nil_append]) hm
  refine ⟨rfl, _, p1, 4, rfl, hp1, by omega, by decide, by decide, fun c p2 a2 b2 hp2 => ⟨⟨by omega, by omega⟩, ?_⟩⟩
  have es : (hs.map W.str).eraseIdx i = (hs.eraseIdx i).map W.str := erase_map ..
  rw [es]
  refine for_ind (fun j st => ∃ (fs ls : List Str) (p' : Pen), (fs ++ ls).Perm hs ∧ 1 ≤ fs.length ∧ fs.length ≤ 1 + j ∧ PenB (n + 2 + 2 * j) p' ∧ st = [.mp 0 (penT p'), .lo (.fz (txL hs)), .lo (.lst (ls.map .str)), .lo (.lst (fs.map .str)), .un]) ⟨[m], hs.eraseIdx i, p2, pm0, Nat.le_refl _, Nat.le_refl _, hp2, rfl⟩ ?_ ?_
  · rintro j w hw kk hkk st ⟨fs, ls, p', hpm, hf1, hf2, hp', rfl⟩
    have hj : j < c.toNat := by
      have := (List.getElem?_eq_some_iff.mp hw).1
      rwa [List.length_map, List.length_range] at this
    rw [List.getElem?_map] at hw
    obtain ⟨j', _, rfl⟩ := Option.map_eq_some_iff.mp hw
    have hlen := hpm.length_eq
    rw [List.length_append] at hlen
    cases ls with
    | nil => exact ⟨lel 0 rfl, Or.inr ⟨true, rfl, no (no (hkk _ ⟨fs, [], p', hpm, hf1, by omega, hp'.mono (by omega), rfl⟩))⟩⟩
    | cons y ys =>
      refine ⟨lel 0 rfl, Or.inr ⟨false, rfl, ye ?_⟩⟩
      refine ⟨rfl, _, p', 2, rfl, hp', by omega, by decide, by decide, fun d2 p3 a3 b3 hp3 => Or.inr ⟨_, rfl, br (fun _ => ?_) fun _ => hkk _ ⟨fs, y :: ys, p3, hpm, hf1, by omega, hp3.mono (by omega), rfl⟩⟩⟩
      have hll : (((y :: ys).map W.str).length : Int) = ((y :: ys).length : Int) := by rw [List.length_map]
      have hlc : (y :: ys).length = ys.length + 1 := rfl
      refine ⟨rfl, _, p3, ((y :: ys).map W.str).length, rfl, hp3, by omega, by omega, by omega, fun e p4 a4 b4 hp4 => ?_⟩
      obtain ⟨q, rfl⟩ : ∃ q : Nat, e = q := ⟨e.toNat, by omega⟩
      have hql : q < (y :: ys).length := by omega
      obtain ⟨m2, hm2⟩ : ∃ m2, (y :: ys)[q]? = some m2 := ⟨(y :: ys)[q], List.getElem?_eq_getElem hql⟩
      refine ⟨(fun z => nomatch z), q, .str m2, ⟨by omega, by omega⟩, ?_, ?_, ?_, ?_⟩
      · rw [List.length_map]
        exact seqIx hql
      · rw [List.getElem?_map, hm2]
        rfl
      · rw [List.length_map]
        exact szN (by omega)
      · refine hkk _ ⟨fs ++ [m2], (y :: ys).eraseIdx q, p4, erase_perm hpm hm2, by rw [List.length_append]; omega, by rw [List.length_append, List.length_singleton]; omega, hp4.mono (by omega), ?_⟩
        rw [List.map_append, erase_map]
        rfl
  · rintro st ⟨fs, ls, p', hpm, hf1, hf2, hp', rfl⟩
    rw [List.length_map, List.length_range] at hf2 hp'
    have nd2 := hpm.nodup_iff.mpr nd
    exact hk fs p' (List.nodup_append.mp nd2).1 (fun e => by rw [e] at hf1; exact absurd hf1 (by decide)) (by omega) (fun m hm => hpm.mem_iff.mp (List.mem_append_left _ hm)) (hp'.mono (by omega))
def c__law_pieces : Ct := fun ts k _ => ∃ (n : Nat) (p : Pen) (hs : List Str) (many : Nat), ts = [penT p, .fz (txL hs), .fz (.int many), .fz (.int 9)] ∧ PenB n p ∧ n ≤ 1000000 ∧ 1 ≤ hs.length ∧ hs.length ≤ 5 ∧ hs.Nodup ∧ 1 ≤ many ∧ many ≤ 5 ∧
  ∀ (ps : List Piece) p', ps.length = many → (titles ps).Nodup → (∀ p ∈ ps, Nm p.1) → (∀ p ∈ ps, p.2.2.Nodup ∧ p.2.2 ≠ [] ∧ p.2.2.length ≤ 4 ∧ ∀ m ∈ p.2.2, m ∈ hs) → PenB (n + 200) p' → k (.fz (.lst (ps.map pieceW))) [penT p', .fz (txL hs), .fz (.int many), .fz (.int 9)]
/-- _law_pieces -/
def d__law_pieces : DS := (dRet (dFz (lComp (iSq (dOf (dCallU c__law_names [.u 0, .u 1] [] 2 0 (aCons (dVar 0) (aCons (dVar 2) aNil)) aNil))) (.one 4) tYes' (dTup (aCons (dVar 4) (aCons (dOf (dCallU c__law_ends [.u 0, .u 1] [] 2 0 (aCons (dVar 0) (aCons (dVar 3) aNil)) aNil)) (aCons (dOf (dCallU c__law_makers [.u 0, .u 1] [] 2 0 (aCons (dVar 0) (aCons (dVar 1) aNil)) aNil)) aNil)))))))
theorem m__law_pieces : Meets c__law_pieces 4 1 d__law_pieces := by
  intro ts k kx h
  obtain ⟨n, p, hs, many, rfl, hp, hn, h1, h2, nd, m1, m2, hk⟩ := h
  refine ⟨rfl, rfl, n, p, many, rfl, hp, by omega, by omega, fun ns p1 nl nm nn hp1 => ?_⟩
  refine compW_st (fun j acc st => ∃ (ps : List Piece) (p' : Pen), acc = ps.map pieceW ∧ titles ps = ns.take j ∧ (∀ p ∈ ps, p.2.2.Nodup ∧ p.2.2 ≠ [] ∧ p.2.2.length ≤ 4 ∧ ∀ m ∈ p.2.2, m ∈ hs) ∧ PenB (n + 20 + 16 * j) p' ∧ st = [.mp 0 (penT p'), .lo (.fz (txL hs)), .lo (.fz (.int many)), .lo (.fz (.int 9)), .un]) ⟨[], p1, rfl, rfl, (fun _ z => nomatch z), hp1, rfl⟩ ?_ ?_ ?_
  · rintro j w hw acc st ⟨ps, p', rfl, ht, hm, hp', rfl⟩ A B hA hB
    rw [List.getElem?_map] at hw
    obtain ⟨x, hj, rfl⟩ := Option.map_eq_some_iff.mp hw
    have hjl := (List.getElem?_eq_some_iff.mp hj).1
    refine ye ⟨rfl, _, p', rfl, hp', by omega, fun s p2 hp2 => ?_⟩
    refine ⟨rfl, _, p2, hs, rfl, hp2, by omega, h1, h2, nd, fun ms p3 a1 a2 a3 a4 hp3 => ⟨lel 3 rfl, hA _ _ ⟨ps ++ [(x, s, ms)], p3, by rw [List.map_append]; rfl, ?_, fun q hq => ?_, hp3.mono (by omega), rfl⟩⟩⟩
    · unfold titles at *
      rw [List.map_append, ht, List.take_succ, hj]
      rfl
    · rcases List.mem_append.mp hq with z | z
      · exact hm q z
      · rw [List.mem_singleton.mp z]; exact ⟨a1, a2, a3, a4⟩
  · rw [List.length_map]
    exact szM (by omega)
  rintro acc st ⟨ps, p', rfl, ht, hm, hp', rfl⟩
  rw [List.length_map, List.take_length] at ht
  rw [List.length_map] at hp'
  refine hk ps p' (by have := congrArg List.length ht; unfold titles at this; rw [List.length_map] at this; omega) (by rw [ht]; exact nn (by omega)) (fun q hq => nm _ (by rw [← ht]; exact List.mem_map.mpr ⟨q, hq, rfl⟩)) hm (hp'.mono (by omega))
def c__law_sheet : Ct := fun ts k kx => ∃ gs ps, ts = [.fz (.lst (gs.map giveW)), .fz (.lst (ps.map pieceW))] ∧ gs.length < 64 ∧ ps.length < 64 ∧ (∀ p ∈ ps, p.2.2.length < 64) ∧ (duePs (homesOf gs) [] ps = none → k (.fz (sheetW gs ps)) ts) ∧ ∀ e, duePs (homesOf gs) [] ps = some e → kx e ts
/-- _law_sheet -/
def d__law_sheet : DS := (dSeq (dAsg 2 (dFz (lComp (iSq (dVar 0)) (.tup [3, 4, 5]) tYes' (dTup (aCons (dVar 3) (aCons (dLk (dMakeU c_Span___init__ 0 [.u 0, .u 1] [(.non)] 2 0 (aCons (dOp oSub' (dVar 4) (dC (.int 0))) (aCons (dOp oSub' (dVar 4) (dC (.int 1))) aNil)) aNil)) (aCons (dVar 5) aNil)))))))
  (dRet (dLk (dMakeU c_Sheet___init__ 4 [.u 0, .u 1] [(.non), (.non)] 2 0 (aCons (dVar 2) (aCons (dFz (lComp (iSq (dVar 1)) (.tup [6, 4, 7]) tYes' (dTup (aCons (dVar 6) (aCons (dLk (dMakeU c_Span___init__ 0 [.u 0, .u 1] [(.non)] 2 0 (aCons (dOp oSub' (dVar 4) (dC (.int 0))) (aCons (dOp oSub' (dVar 4) (dC (.int 1))) aNil)) aNil)) (aCons (dVar 7) aNil)))))) aNil)) aNil))))
theorem m__law_sheet : Meets c__law_sheet 2 6 d__law_sheet := by
  intro ts k kx h
  obtain ⟨gs, ps, rfl, gl, pl, pm, hk, hx⟩ := h
  refine ⟨rfl, ?_⟩
  refine compW_map (a := giveW) (b := giveS) (fun g _ A B hh => ⟨rfl, rfl, ye ⟨_, L2.atI_nat (j := 0) rfl, _, L2.atI_nat (j := 1) rfl, rfl, .int _, .int _, rfl, lel 3 rfl, hh⟩⟩) (sz gl) ?_
  refine compW_map (a := pieceW) (b := pieceQ) (fun g _ A B hh => ⟨rfl, rfl, ye ⟨_, L2.atI_nat (j := 0) rfl, _, L2.atI_nat (j := 1) rfl, rfl, .int _, .int _, rfl, lel 3 rfl, hh⟩⟩) (sz pl) ?_
  exact ⟨rfl, gs, ps, rfl, gl, pl, pm, fun hd => hk hd, fun e _ hd => hx e hd⟩
/-- rows that may be spoilt -/
structure Rows (n : Nat) (ps : List Piece) : Prop where
  ne : ps ≠ []
  pl : ps.length ≤ 5
  t12 : ∀ p ∈ ps, p.1.length ≤ 12
  ms : ∀ p ∈ ps, p.2.2 ≠ [] ∧ p.2.2.length ≤ n
theorem Rows.mono {n m : Nat} {ps : List Piece} (r : Rows n ps) (h : n ≤ m) : Rows m ps := ⟨r.ne, r.pl, r.t12, fun p hp => ⟨(r.ms p hp).1, Nat.le_trans (r.ms p hp).2 h⟩⟩
theorem Rows.set {n : Nat} {ps : List Piece} (r : Rows n ps) {j : Nat} (hj : j < ps.length) {p : Piece} (h1 : p.1.length ≤ 12) (h2 : p.2.2 ≠ []) (h3 : p.2.2.length ≤ n) : Rows n (ps.take j ++ [p] ++ ps.drop (j + 1)) := by
  have mem : ∀ q ∈ ps.take j ++ [p] ++ ps.drop (j + 1), q ∈ ps ∨ q = p := fun q hq => by
    rcases List.mem_append.mp hq with z | z
    · rcases List.mem_append.mp z with z | z
      · exact .inl (List.mem_of_mem_take z)
      · exact .inr (List.mem_singleton.mp z)
    · exact .inl (List.mem_of_mem_drop z)
  have := r.pl
  refine ⟨by simp, by rw [List.length_append, List.length_append, List.length_take, List.length_drop, List.length_singleton]; omega, fun q hq => ?_, fun q hq => ?_⟩
  · rcases mem q hq with z | rfl
    · exact r.t12 q z
    · exact h1
  · rcases mem q hq with z | rfl
    · exact r.ms q z
    · exact ⟨h2, h3⟩
def dueW : Option XW → W
  | none => .non
  | some e => .tup (.str (if e.c = 11 then Str.ofString "twice" else Str.ofString "home") :: e.fs)
def c__law_due : Ct := fun ts k _ => ∃ ns ps, ts = [.fz (txL ns), .fz (.lst (ps.map pieceW))] ∧ ns.length ≤ 5 ∧ ps.length ≤ 5 ∧ (∀ p ∈ ps, p.2.2.length ≤ 20) ∧ k (.fz (dueW (duePs ns [] ps))) ts
/-- _law_due -/
def d__law_due : DS := (dSeq (dAsgO 2 (lDisp aNil))
  (dSeq (dForV [3, 4, 5, 6] (dVar 1) (gTn 3 (gsCons (gN 3) (gsCons (gN 4) (gsCons (gN 5) gsNil))))
  (dSeq (dIf (dTest (dOp (oInX false) (dVar 3) (dVar 2)))
  (dRet (dTup (aCons (dC (.str "twice")) (aCons (dVar 3) aNil))))
  dNext)
  (dSeq (dExpr (dMutL fAppend (dVar 2) (aCons (dVar 3) aNil)))
  (dFor [6] (iRg1 (aCons (dCB cLen (aCons (dVar 5) aNil)) aNil)) (gN 6)
  (dSeq (dIf (dTest (dOp (oInX false) (dOp oSub' (dVar 5) (dVar 6)) (dCutS (dVar 5) oNone (oPart (dVar 6)))))
  (dRet (dTup (aCons (dC (.str "twice")) (aCons (dOp oSub' (dVar 5) (dVar 6)) aNil))))
  dNext)
  (dIf (dTest (dOp (oInX true) (dOp oSub' (dVar 5) (dVar 6)) (dVar 0)))
  (dRet (dTup (aCons (dC (.str "home")) (aCons (dOp oSub' (dVar 5) (dVar 6)) aNil))))
  dNext))))))
  (dRet (dC .non))))
theorem m__law_due : Meets c__law_due 2 5 d__law_due := by
  intro ts k kx h
  obtain ⟨ns, ps, rfl, nl, pl, pm, hk⟩ := h
  refine ⟨rfl, lel 0 rfl, ?_⟩
  refine for_ind (fun j st => j ≤ ps.length ∧ duePs ns [] ps = duePs ns (titles (ps.take j)) (ps.drop j) ∧ st = [.lo (.fz (txL ns)), .lo (.fz (.lst (ps.map pieceW))), .lo (.lst ((titles (ps.take j)).map W.str)), .un, .un, .un, .un]) ⟨Nat.zero_le _, rfl, rfl⟩ ?_ ?_
  · rintro j w hw kk hkk st ⟨_, hd, rfl⟩
    rw [List.getElem?_map] at hw
    obtain ⟨p, hj, rfl⟩ := Option.map_eq_some_iff.mp hw
    have hjl := (List.getElem?_eq_some_iff.mp hj).1
    have hpm := List.mem_of_getElem? hj
    have ml := pm p hpm
    rw [duePs_at hj] at hd
    refine ⟨rfl, rfl, _, inL p.1 _, br (fun e => ?_) fun e => ?_⟩
    · rw [if_pos e] at hd
      rw [hd] at hk
      exact ⟨lel 2 rfl, hk⟩
    rw [if_neg e] at hd
    refine ⟨?_, ?_⟩
    · rw [List.length_map]
      unfold titles
      rw [List.length_map, List.length_take]
      exact szN (by omega)
    refine ⟨⟨by rw [List.length_map]; omega, by rw [List.length_map]; omega⟩, ?_⟩
    have e2 : (titles (ps.take j)).map W.str ++ [W.str p.1] = (titles (ps.take (j + 1))).map W.str := by
      rw [List.take_succ, hj]
      unfold titles
      rw [List.map_append, List.map_append]
      rfl
    rw [e2]
    refine for_ind (fun i st => i ≤ p.2.2.length ∧ dueMk ns [] p.2.2 = dueMk ns (p.2.2.take i) (p.2.2.drop i) ∧ st = [.lo (.fz (txL ns)), .lo (.fz (.lst (ps.map pieceW))), .lo (.lst ((titles (ps.take (j + 1))).map W.str)), .lo (.fz (.str p.1)), .lo (.fz (prI p.2.1)), .lo (.fz (txT p.2.2)), .un]) ⟨Nat.zero_le _, rfl, rfl⟩ ?_ ?_
    · rintro i w hw kk2 hkk2 st ⟨_, hm, rfl⟩
      rw [List.getElem?_map] at hw
      obtain ⟨i', hi', rfl⟩ := Option.map_eq_some_iff.mp hw
      have hil : i < p.2.2.length := by
        have := (List.getElem?_eq_some_iff.mp hi').1
        rw [List.length_range, List.length_map] at this
        omega
      have : i' = i := by
        have := (List.getElem?_eq_some_iff.mp hi').2
        simpa using this.symm
      subst this
      obtain ⟨m, hmi⟩ : ∃ m, p.2.2[i']? = some m := ⟨p.2.2[i'], List.getElem?_eq_getElem hil⟩
      rw [dueMk_at hmi] at hm
      rw [Int.zero_add]
      have hat : L2.atI (p.2.2.map W.str) (i' : Int) = some (.str m) := L2.atI_nat (by rw [List.getElem?_map, hmi]; rfl)
      refine ⟨_, hat, decide (m ∈ p.2.2.take i'), ?_, ?_⟩
      · rw [cut_takeT (Nat.le_of_lt hil)]
        exact inT m _
      refine br (fun e3 => ?_) fun e3 => ?_
      · rw [if_pos e3] at hm
        rw [hm] at hd
        rw [hd] at hk
        exact ⟨_, hat, lel 2 rfl, hk⟩
      rw [if_neg e3] at hm
      refine ⟨_, hat, _, inL m ns, brn (fun e4 => ?_) fun e4 => ?_⟩
      · rw [if_neg e4] at hm
        rw [hm] at hd
        rw [hd] at hk
        exact ⟨_, hat, lel 2 rfl, hk⟩
      · rw [if_pos e4] at hm
        exact hkk2 _ ⟨hil, hm, rfl⟩
    · rintro st ⟨_, hm, rfl⟩
      rw [List.length_map, List.length_range, List.length_map, Int.toNat_natCast, List.drop_length] at hm
      rw [hm] at hd
      exact hkk _ ⟨hjl, hd, rfl⟩
  · rintro st ⟨_, hd, rfl⟩
    rw [List.length_map, List.drop_length] at hd
    rw [hd] at hk
    exact hk
end Y
namespace Y
open PySem L2
def c__law_spoilt : Ct := fun ts k _ => ∃ (n : Nat) (p : Pen) (ps : List Piece) (ns : List Str) (m : Nat), ts = [penT p, .fz (.lst (ps.map pieceW)), .fz (txL ns)] ∧ PenB n p ∧ n ≤ 1000000 ∧ Rows m ps ∧ m ≤ 10 ∧ 1 ≤ ns.length ∧ ns.length ≤ 5 ∧
  ∀ ps' p', Rows (m + 1) ps' → PenB (n + 10) p' → k (.fz (.lst (ps'.map pieceW))) [penT p', .fz (.lst (ps.map pieceW)), .fz (txL ns)]
/-- _law_spoilt -/
@[irreducible] def d__law_spoilt_1 : DS := (dAsg 3 (dOf (dCallU c__law_draw [.u 0, .u 1] [] 2 0 (aCons (dVar 0) (aCons (dCB cLen (aCons (dVar 1) aNil)) aNil)) aNil)))
@[irreducible] def d__law_spoilt_2 : DS := (dAsgG (gTn 3 (gsCons (gN 4) (gsCons (gN 5) (gsCons (gN 6) gsNil)))) (dOp oSub' (dVar 1) (dVar 3)))
@[irreducible] def d__law_spoilt_3 : DS := (dAsg 7 (dOf (dCallU c__law_draw [.u 0, .u 1] [] 2 0 (aCons (dVar 0) (aCons (dOp oPlus (dCB cLen (aCons (dVar 6) aNil)) (dC (.int 1))) aNil)) aNil)))
@[irreducible] def d__law_spoilt_4 : DS := (dAsg 8 (dOp oSub' (dVar 2) (dOf (dCallU c__law_draw [.u 0, .u 1] [] 2 0 (aCons (dVar 0) (aCons (dCB cLen (aCons (dVar 2) aNil)) aNil)) aNil))))
@[irreducible] def d__law_spoilt_5 : DS := (dAsg 9 (dOf (dCallU c__law_draw [.u 0, .u 1] [] 2 0 (aCons (dVar 0) (aCons (dC (.int 4)) aNil)) aNil)))
@[irreducible] def d__law_spoilt_6 : DS := (dAsg 10 (dTup (aCons (dOp oSub' (dOp oSub' (dVar 1) (dOf (dCallU c__law_draw [.u 0, .u 1] [] 2 0 (aCons (dVar 0) (aCons (dOp oPlus (dVar 3) (dC (.int 1))) aNil)) aNil))) (dC (.int 0))) (aCons (dVar 5) (aCons (dVar 6) aNil)))))
@[irreducible] def d__law_spoilt_7 : DS := (dAsg 10 (dTup (aCons (dVar 4) (aCons (dVar 5) (aCons (dOp oPlus (dOp oPlus (dCutS (dVar 6) oNone (oPart (dVar 7))) (dTup (aCons (dOp oSub' (dVar 6) (dOf (dCallU c__law_draw [.u 0, .u 1] [] 2 0 (aCons (dVar 0) (aCons (dCB cLen (aCons (dVar 6) aNil)) aNil)) aNil))) aNil))) (dCutS (dVar 6) (oPart (dVar 7)) oNone)) aNil)))))
@[irreducible] def d__law_spoilt_8 : DS := (dAsg 10 (dTup (aCons (dVar 4) (aCons (dVar 5) (aCons (dOp oPlus (dOp oPlus (dCutS (dVar 6) oNone (oPart (dVar 7))) (dTup (aCons (dOp oPlus (dC (.str "out")) (dCutS (dVar 4) oNone (oPart (dC (.int 4))))) aNil))) (dCutS (dVar 6) (oPart (dVar 7)) oNone)) aNil)))))
@[irreducible] def d__law_spoilt_9 : DS := (dAsg 10 (dTup (aCons (dVar 4) (aCons (dVar 5) (aCons (dOp oPlus (dOp oPlus (dCutS (dVar 6) oNone (oPart (dVar 7))) (dTup (aCons (dVar 8) aNil))) (dCutS (dVar 6) (oPart (dVar 7)) oNone)) aNil)))))
@[irreducible] def d__law_spoilt_10 : DS := (dIf (dTest (dOp (oEqX false) (dVar 9) (dC (.int 2))))
  d__law_spoilt_8
  d__law_spoilt_9)
@[irreducible] def d__law_spoilt_11 : DS := (dIf (dTest (dOp (oEqX false) (dVar 9) (dC (.int 1))))
  d__law_spoilt_7
  d__law_spoilt_10)
@[irreducible] def d__law_spoilt_12 : DS := (dIf (dTest (dOp (oEqX false) (dVar 9) (dC (.int 0))))
  d__law_spoilt_6
  d__law_spoilt_11)
def d__law_spoilt : DS := (dSeq d__law_spoilt_1
  (dSeq d__law_spoilt_2
  (dSeq d__law_spoilt_3
  (dSeq d__law_spoilt_4
  (dSeq d__law_spoilt_5
  (dSeq d__law_spoilt_12
  (dRet (dOp oPlus (dOp oPlus (dFz (lCut (dVar 1) oNone (oPart (dVar 3)))) (dFz (lDisp (aCons (dVar 10) aNil)))) (dFz (lCut (dVar 1) (oPart (dOp oPlus (dVar 3) (dC (.int 1)))) oNone))))))))))
theorem cut_dropT {ns : List Str} {j : Nat} (h : j ≤ ns.length) : cutW (ns.map W.str) (some ((j : Nat) : Int)) none = (ns.drop j).map W.str := by
  unfold cutW
  rw [HT.sIx_none, HT.sIx_nat, List.length_map, Nat.min_eq_left h, List.map_drop, List.take_of_length_le (by rw [List.length_drop, List.length_map]; exact Nat.le_refl _)]
theorem cut_takeP {ps : List Piece} {j : Nat} (h : j ≤ ps.length) : cutW (ps.map pieceW) none (some ((j : Nat) : Int)) = (ps.take j).map pieceW := by
  unfold cutW
  rw [HT.sIx_none, HT.sIx_nat, List.length_map, Nat.min_eq_left h, List.drop_zero, Nat.sub_zero, List.map_take]
theorem cut_dropP {ps : List Piece} {j : Nat} (h : j ≤ ps.length) : cutW (ps.map pieceW) (some ((j : Nat) : Int)) none = (ps.drop j).map pieceW := by
  unfold cutW
  rw [HT.sIx_none, HT.sIx_nat, List.length_map, Nat.min_eq_left h, List.map_drop, List.take_of_length_le (by rw [List.length_drop, List.length_map]; exact Nat.le_refl _)]
section
variable {D : DEnds} {n : Nat} {p : Pen} {ps : List Piece} {ns : List Str} {m j s : Nat} {q : Piece} {o : Str} {w : Int}
abbrev spS (p : Pen) (ps : List Piece) (ns : List Str) (a3 a4 a5 a6 a7 a8 a9 a10 : Sl) : S := [.mp 0 (penT p), .lo (.fz (.lst (ps.map pieceW))), .lo (.fz (txL ns)), a3, a4, a5, a6, a7, a8, a9, a10]
abbrev iS (i : Int) : Sl := .lo (.fz (.int i))
abbrev sS (s : Str) : Sl := .lo (.fz (.str s))
theorem sp_1 (hp : PenB n p) (hn : n ≤ 2000000) (r : Rows m ps) (h : ∀ (j : Nat) q p', ps[j]? = some q → PenB (n + 1) p' → D.nx (spS p' ps ns (iS j) .un .un .un .un .un .un .un)) :
    d__law_spoilt_1 D (spS p ps ns .un .un .un .un .un .un .un .un) := by
  unfold d__law_spoilt_1
  have l1 : 1 ≤ ps.length := List.length_pos_iff.mpr r.ne
  have l2 := r.pl
  have e0 : ((ps.map pieceW).length : Int) = (ps.length : Int) := by rw [List.length_map]
  refine ⟨rfl, n, p, (ps.map pieceW).length, rfl, hp, by omega, by omega, by omega, fun d p1 a1 b1 hp1 => ?_⟩
  obtain ⟨j, rfl⟩ : ∃ j : Nat, d = j := ⟨d.toNat, by omega⟩
  have hj : j < ps.length := by omega
  exact h j _ p1 (List.getElem?_eq_getElem hj) hp1
theorem sp_2 (hq : ps[j]? = some q) (h : D.nx (spS p ps ns (iS j) (sS q.1) (.lo (.fz (prI q.2.1))) (.lo (.fz (txT q.2.2))) .un .un .un .un)) :
    d__law_spoilt_2 D (spS p ps ns (iS j) .un .un .un .un .un .un .un) := by
  unfold d__law_spoilt_2
  exact ⟨pieceW q, L2.atI_nat (by rw [List.getElem?_map, hq]; rfl), rfl, rfl, h⟩
theorem sp_3 {x4 x5 : Sl} {ms : List Str} (hp : PenB n p) (hn : n ≤ 2000000) (ml : ms.length ≤ 10) (h : ∀ (s : Nat) p', s ≤ ms.length → PenB (n + 1) p' → D.nx (spS p' ps ns (iS j) x4 x5 (.lo (.fz (txT ms))) (iS s) .un .un .un)) :
    d__law_spoilt_3 D (spS p ps ns (iS j) x4 x5 (.lo (.fz (txT ms))) .un .un .un .un) := by
  unfold d__law_spoilt_3
  have e0 : ((ms.map W.str).length : Int) = (ms.length : Int) := by rw [List.length_map]
  refine ⟨rfl, n, p, (ms.map W.str).length + 1, rfl, hp, by omega, by omega, by omega, fun d p1 a1 b1 hp1 => ?_⟩
  obtain ⟨s, rfl⟩ : ∃ s : Nat, d = s := ⟨d.toNat, by omega⟩
  exact h s p1 (by omega) hp1
theorem sp_4 {x4 x5 x6 x7 : Sl} (hp : PenB n p) (hn : n ≤ 2000000) (n1 : 1 ≤ ns.length) (n5 : ns.length ≤ 5) (h : ∀ (o : Str) p', PenB (n + 1) p' → D.nx (spS p' ps ns (iS j) x4 x5 x6 x7 (sS o) .un .un)) :
    d__law_spoilt_4 D (spS p ps ns (iS j) x4 x5 x6 x7 .un .un .un) := by
  unfold d__law_spoilt_4
  have e0 : ((ns.map W.str).length : Int) = (ns.length : Int) := by rw [List.length_map]
  refine ⟨rfl, n, p, (ns.map W.str).length, rfl, hp, by omega, by omega, by omega, fun d p1 a1 b1 hp1 => ?_⟩
  obtain ⟨i, rfl⟩ : ∃ s : Nat, d = s := ⟨d.toNat, by omega⟩
  have hi : i < ns.length := by omega
  exact ⟨_, L2.atI_nat (by rw [List.getElem?_map, List.getElem?_eq_getElem hi]; rfl), h _ p1 hp1⟩
theorem sp_5 {x4 x5 x6 x7 x8 : Sl} (hp : PenB n p) (hn : n ≤ 2000000) (h : ∀ (w : Int) p', PenB (n + 1) p' → D.nx (spS p' ps ns (iS j) x4 x5 x6 x7 x8 (iS w) .un)) :
    d__law_spoilt_5 D (spS p ps ns (iS j) x4 x5 x6 x7 x8 .un .un) := by
  unfold d__law_spoilt_5
  exact ⟨rfl, n, p, 4, rfl, hp, by omega, by decide, by decide, fun d p1 a1 b1 hp1 => h d p1 hp1⟩
/-- the makers with one more -/
theorem put_ms {ms : List Str} {s : Nat} (hs : s ≤ ms.length) (o : Str) : cutW (ms.map W.str) none (some (s : Int)) ++ [W.str o] ++ cutW (ms.map W.str) (some (s : Int)) none = (ms.take s ++ [o] ++ ms.drop s).map W.str := by
  rw [cut_takeT hs, cut_dropT hs, List.map_append, List.map_append]
  rfl
theorem sp_12 {ms : List Str} (hp : PenB n p) (hn : n ≤ 2000000) (r : Rows m ps) (hj : j < ps.length) (hs : s ≤ ms.length) (ml : ms.length ≤ m) (m10 : m ≤ 10) (m0 : ms ≠ []) (t12 : q.1.length ≤ 12)
    (h : ∀ (t : Str) (us : List Str) p', t.length ≤ 12 → us ≠ [] → us.length ≤ m + 1 → PenB (n + 1) p' → D.nx (spS p' ps ns (iS j) (sS q.1) (.lo (.fz (prI q.2.1))) (.lo (.fz (txT ms))) (iS s) (sS o) (iS w) (.lo (.fz (pieceW (t, q.2.1, us)))))) :
    d__law_spoilt_12 D (spS p ps ns (iS j) (sS q.1) (.lo (.fz (prI q.2.1))) (.lo (.fz (txT ms))) (iS s) (sS o) (iS w) .un) := by
  unfold d__law_spoilt_12
  have l1 : 1 ≤ ms.length := List.length_pos_iff.mpr m0
  have l2 := r.pl
  have em : ((ms.map W.str).length : Int) = (ms.length : Int) := by rw [List.length_map]
  have put : ∀ (o' : Str) p', PenB (n + 1) p' → D.nx (spS p' ps ns (iS j) (sS q.1) (.lo (.fz (prI q.2.1))) (.lo (.fz (txT ms))) (iS s) (sS o) (iS w) (.lo (.fz (.tup [.str q.1, prI q.2.1, .tup (cutW (ms.map W.str) none (some (s : Int)) ++ [W.str o'] ++ cutW (ms.map W.str) (some (s : Int)) none)])))) := fun o' p' hp' => by
    rw [put_ms hs]
    exact h q.1 (ms.take s ++ [o'] ++ ms.drop s) p' t12 (by simp) (by rw [List.length_append, List.length_append, List.length_take, List.length_drop, List.length_singleton]; omega) hp'
  have s1 : (cutW (ms.map W.str) none (some (s : Int))).length + 1 ≤ sizeLine := by rw [cut_takeT hs, List.length_map, List.length_take]; exact szM (by omega)
  have s2 : ∀ o' : Str, (cutW (ms.map W.str) none (some (s : Int)) ++ [W.str o']).length + (cutW (ms.map W.str) (some (s : Int)) none).length ≤ sizeLine := fun o' => by
    rw [cut_takeT hs, cut_dropT hs, List.length_append, List.length_map, List.length_map, List.length_take, List.length_drop, List.length_singleton]; exact szM (by omega)
  refine Or.inr ⟨_, rfl, br (fun _ => ?_) fun _ => ?_⟩
  · unfold d__law_spoilt_6
    refine ⟨rfl, n, p, (j : Int) + 1, rfl, hp, by omega, by omega, by omega, fun d p1 a1 b1 hp1 => ?_⟩
    obtain ⟨i, rfl⟩ : ∃ i : Nat, d = i := ⟨d.toNat, by omega⟩
    have hi : i < ps.length := by omega
    exact ⟨pieceW ps[i], L2.atI_nat (by rw [List.getElem?_map, List.getElem?_eq_getElem hi]; rfl), _, L2.atI_nat (j := 0) rfl, lel 3 rfl, h ps[i].1 ms p1 (r.t12 _ (List.getElem_mem hi)) m0 (by omega) hp1⟩
  unfold d__law_spoilt_11
  refine Or.inr ⟨_, rfl, br (fun _ => ?_) fun _ => ?_⟩
  · unfold d__law_spoilt_7
    refine ⟨rfl, n, p, (ms.map W.str).length, rfl, hp, by omega, by omega, by omega, fun d p1 a1 b1 hp1 => ?_⟩
    obtain ⟨i, rfl⟩ : ∃ i : Nat, d = i := ⟨d.toNat, by omega⟩
    have hi : i < ms.length := by omega
    exact ⟨.str ms[i], L2.atI_nat (by rw [List.getElem?_map, List.getElem?_eq_getElem hi]; rfl), lel 1 rfl, s1, s2 ms[i], lel 3 rfl, put ms[i] p1 hp1⟩
  unfold d__law_spoilt_10
  refine Or.inr ⟨_, rfl, br (fun _ => ?_) fun _ => ?_⟩
  · unfold d__law_spoilt_8
    have so : SL (Str.ofString "out") 3 := by show (Str.ofString "out").length ≤ 3; decide +kernel
    have sq : SL q.1 12 := t12
    exact ⟨Nat.le_trans t12 (by decide), (so.app (cut_sl sq)).sum rfl, lel 1 rfl, s1, s2 _, lel 3 rfl, put _ p (hp.mono (by omega))⟩
  · unfold d__law_spoilt_9
    exact ⟨lel 1 rfl, s1, s2 _, lel 3 rfl, put _ p (hp.mono (by omega))⟩
end
theorem m__law_spoilt : Meets c__law_spoilt 3 8 d__law_spoilt := by
  intro ts k kx h
  obtain ⟨n, p, ps, ns, m, rfl, hp, hn, r, m10, n1, n5, hk⟩ := h
  refine ⟨rfl, sp_1 hp (by omega) r fun j q p1 hj hp1 => ?_⟩
  have hjl := (List.getElem?_eq_some_iff.mp hj).1
  have hqm := List.mem_of_getElem? hj
  refine sp_2 hj ?_
  refine sp_3 hp1 (by omega) (by have := (r.ms q hqm).2; omega) fun s p2 hs hp2 => ?_
  refine sp_4 hp2 (by omega) n1 n5 fun o p3 hp3 => ?_
  refine sp_5 hp3 (by omega) fun w p4 hp4 => ?_
  refine sp_12 (q := q) (m := m) hp4 (by omega) r hjl hs (r.ms q hqm).2 m10 (r.ms q hqm).1 (r.t12 q hqm) fun t us p5 a1 a2 a3 hp5 => ?_
  have e1 := cut_takeP (ps := ps) (j := j) (by omega)
  have e2 := cut_dropP (ps := ps) (j := j + 1) (by omega)
  have l2 := r.pl
  refine ⟨lel 1 rfl, by rw [e1, List.length_map, List.length_take]; exact szM (show min j ps.length + 1 ≤ 1000 by omega), ?_⟩
  have e2' : cutW (ps.map pieceW) (some ((j : Int) + 1)) none = (ps.drop (j + 1)).map pieceW := e2
  refine ⟨by rw [e1, e2', List.length_append, List.length_map, List.length_map, List.length_take, List.length_drop]; exact szM (show min j ps.length + 1 + (ps.length - (j + 1)) ≤ 1000 by omega), ?_⟩
  have := hk (ps.take j ++ [(t, q.2.1, us)] ++ ps.drop (j + 1)) p5 ((r.mono (Nat.le_succ m)).set hjl a1 a2 a3) (hp5.mono (by omega))
  rw [List.map_append, List.map_append, ← e1, ← e2'] at this
  exact this
/-! ### what is told -/
/-- _law_told -/
def d__law_told (act : DE) : DS := (dSeq (dAsg 1 (dC .non))
  (dSeq (dTry (dExpr act) dNext [(tblC [(11, true), (18, true), (19, true)], some 2, (dAsg 1 (dVar 2)))])
  (dSeq (dIf (dTest (dUn oIsN (dVar 1)))
  (dRet (dC .non))
  dNext)
  (dSeq (dAsg 3 (dFz (lDisp (aCons (dIsX [(11, true), (18, false), (19, false)] (dVar 1)) (aCons (dIsX [(11, false), (18, true), (19, false)] (dVar 1)) (aCons (dIsX [(11, false), (18, false), (19, true)] (dVar 1)) aNil))))))
  (dSeq (dAsg 4 (dFz (lDisp (aCons (dIsX [(11, true), (18, false), (19, false)] (dVar 1)) (aCons (dIsX [(11, false), (18, true), (19, true)] (dVar 1)) (aCons (dIsX [(11, false), (18, true), (19, true)] (dVar 1)) aNil))))))
  (dSeq (dIf (dOr (dTest (dOp (oEqX true) (dMt "list" oCount (dVar 3) (aCons (dC (.bl true)) aNil)) (dC (.int 1)))) (dNot (dTru (dOp oSub' (dVar 4) (dMt "list" oIndex (dVar 3) (aCons (dC (.bl true)) aNil))))))
  (dRet (dTup (aCons (dC (.str "other")) (aCons (dXf [(11, 0), (18, 0), (19, 0)] (dVar 1)) aNil))))
  dNext)
  (dRet (dTup (aCons (dOp oSub' (dFz (lDisp (aCons (dC (.str "twice")) (aCons (dC (.str "home")) (aCons (dC (.str "piece")) aNil))))) (dMt "list" oIndex (dVar 3) (aCons (dC (.bl true)) aNil))) (aCons (dXf [(11, 0), (18, 0), (19, 0)] (dVar 1)) aNil))))))))))
abbrev wdE (c : Nat) : Str := if c = 11 then Str.ofString "twice" else if c = 18 then Str.ofString "home" else Str.ofString "piece"
/-- the lambda is refused -/
theorem lam_err {q : Str} {st : S} {d : DE} {k : R → S → Prop} {c : Nat} {s : Str} (hc : c = 11 ∨ c = 18 ∨ c = 19) (h : ∀ (k' : R → S → Prop) (x' : KX), x' ⟨c, [.str s]⟩ st → d st k' x') (hk : k (.w (.tup [.str (wdE c), .str s])) st) : dLam d__law_told q 4 d st k (fun _ _ => True) := by
  intro f cc σ pv
  refine ⟨st, rfl, h _ _ ?_⟩
  rcases hc with rfl | rfl | rfl
  · refine no ⟨lel 3 rfl, lel 3 rfl, rfl, 1, rfl, Or.inr ⟨true, rfl, no ⟨rfl, [.bool true, .bool false, .bool false], .bool true, 0, .bool true, rfl, rfl, rfl, rfl, rfl, rfl, fun m z' hm => absurd hm (Nat.not_lt_zero _), _, L2.atI_nat (j := 0) rfl, no ?_⟩⟩⟩
    exact ⟨lel 3 rfl, rfl, [.bool true, .bool false, .bool false], .bool true, 0, .bool true, rfl, rfl, rfl, rfl, rfl, rfl, fun m z' hm => absurd hm (Nat.not_lt_zero _), _, L2.atI_nat (j := 0) rfl, _, rfl, lel 2 rfl, _, st, rfl, rfl, hk⟩
  · refine no ⟨lel 3 rfl, lel 3 rfl, rfl, 1, rfl, Or.inr ⟨true, rfl, no ⟨rfl, [.bool false, .bool true, .bool false], .bool true, 1, .bool true, rfl, rfl, rfl, rfl, rfl, rfl, fun m z' hm hz => ?_, _, L2.atI_nat (j := 1) rfl, no ?_⟩⟩⟩
    · rcases (show m = 0 by omega) with rfl
      cases hz; rfl
    refine ⟨lel 3 rfl, rfl, [.bool false, .bool true, .bool false], .bool true, 1, .bool true, rfl, rfl, rfl, rfl, rfl, rfl, fun m z' hm hz => ?_, _, L2.atI_nat (j := 1) rfl, _, rfl, lel 2 rfl, _, st, rfl, rfl, hk⟩
    rcases (show m = 0 by omega) with rfl
    cases hz; rfl
  · refine no ⟨lel 3 rfl, lel 3 rfl, rfl, 1, rfl, Or.inr ⟨true, rfl, no ⟨rfl, [.bool false, .bool false, .bool true], .bool true, 2, .bool true, rfl, rfl, rfl, rfl, rfl, rfl, fun m z' hm hz => ?_, _, L2.atI_nat (j := 2) rfl, no ?_⟩⟩⟩
    · rcases (show m = 0 ∨ m = 1 by omega) with rfl | rfl <;> cases hz <;> rfl
    refine ⟨lel 3 rfl, rfl, [.bool false, .bool false, .bool true], .bool true, 2, .bool true, rfl, rfl, rfl, rfl, rfl, rfl, fun m z' hm hz => ?_, _, L2.atI_nat (j := 2) rfl, _, rfl, lel 2 rfl, _, st, rfl, rfl, hk⟩
    rcases (show m = 0 ∨ m = 1 by omega) with rfl | rfl <;> cases hz <;> rfl
/-- the lambda answers -/
theorem lam_no {q : Str} {st : S} {d : DE} {k : R → S → Prop} {w : W} (h : ∀ (k' : R → S → Prop) (x' : KX), k' (.w w) st → d st k' x') (hk : k (.w .non) st) : dLam d__law_told q 4 d st k (fun _ _ => True) := by
  intro f cc σ pv
  exact ⟨st, rfl, h _ _ (ye ⟨_, st, rfl, rfl, hk⟩)⟩
theorem dueMk_form {hs : List Str} : ∀ (ms seen : List Str) (e : XW), dueMk hs seen ms = some e → ∃ s, e = ⟨11, [.str s]⟩ ∨ e = ⟨18, [.str s]⟩
  | [], _, e, h => by cases h
  | m :: ms, seen, e, h => by
    unfold dueMk at h
    split at h
    · cases h; exact ⟨m, .inl rfl⟩
    · split at h
      · exact dueMk_form ms _ e h
      · cases h; exact ⟨m, .inr rfl⟩
theorem duePs_form {hs : List Str} : ∀ (ps : List Piece) (seen : List Str) (e : XW), duePs hs seen ps = some e → ∃ s, e = ⟨11, [.str s]⟩ ∨ e = ⟨18, [.str s]⟩
  | [], _, e, h => by cases h
  | p :: ps, seen, e, h => by
    unfold duePs at h
    split at h
    · cases h; exact ⟨p.1, .inl rfl⟩
    · split at h
      · rename_i e' he
        cases h
        exact dueMk_form _ _ _ he
      · exact duePs_form ps _ e h
theorem eq_two (a b : Str) : eqW 6 (.tup [.str a, .str b]) (.tup [.str a, .str b]) = some true := by
  have := eqWs_map (n := 5) (eqW_str 4) [a, b] [a, b]
  rw [decide_eq_true rfl] at this
  exact this
theorem eq_twoD (a b : Str) : eqD 6 (.tup [.str a, .str b]) (.tup [.str a, .str b]) = some true := by
  have := eqWs_map (n := 6) (eqW_str 5) [a, b] [a, b]
  rw [decide_eq_true rfl] at this
  exact this
theorem eqWs_sf {n : Nat} : ∀ xs : List W, (∀ x ∈ xs, eqW n x x = some true) → eqWs (eqW n) xs xs = some true
  | [], _ => rfl
  | x :: xs, h => by
    unfold eqWs
    rw [h x (by simp), eqWs_sf xs fun y hy => h y (by simp [hy])]
theorem eq_lists (xs ys : List Str) : eqD 6 (.tup [txL xs, txL ys]) (.tup [txL xs, txL ys]) = some true := by
  refine eqWs_sf (n := 6) _ fun x hx => ?_
  have go : ∀ zs : List Str, eqW 6 (txL zs) (txL zs) = some true := fun zs => by
    have := eqWs_map (n := 5) (eqW_str 4) zs zs
    rw [decide_eq_true rfl] at this
    exact this
  rcases List.mem_cons.mp hx with rfl | hx
  · exact go xs
  · rw [List.mem_singleton.mp hx]; exact go ys
/-- law -/
@[irreducible] def d_law_1 : DS := (dAsgW 1 (dCallU c__law_pen [.u 0] [] 1 0 (aCons (dVar 0) aNil) aNil))
@[irreducible] def d_law_2 : DS := (dAsg 3 (dOf (dCallU c__law_names [.u 0, .u 1] [] 2 0 (aCons (dVar 1) (aCons (dOp oPlus (dC (.int 2)) (dOf (dCallU c__law_draw [.u 0, .u 1] [] 2 0 (aCons (dVar 1) (aCons (dC (.int 4)) aNil)) aNil))) aNil)) aNil)))
@[irreducible] def d_law_3 : DS := (dAsg 8 (dOf (dCallU c__law_gives [.u 0, .u 1, .u 2] [] 3 0 (aCons (dVar 1) (aCons (dVar 3) (aCons (dC (.int 9)) aNil))) aNil)))
@[irreducible] def d_law_4 : DS := (dAsg 4 (dOf (dCallU c__law_pieces [.u 0, .u 1, .u 2, .u 3] [] 4 0 (aCons (dVar 1) (aCons (dVar 3) (aCons (dOp oPlus (dC (.int 1)) (dOf (dCallU c__law_draw [.u 0, .u 1] [] 2 0 (aCons (dVar 1) (aCons (dC (.int 5)) aNil)) aNil))) (aCons (dC (.int 9)) aNil)))) aNil)))
@[irreducible] def d_law_5 : DS := (dAsg 10 (dOf (dCallU c__law_spoilt [.u 0, .u 1, .u 2] [] 3 0 (aCons (dVar 1) (aCons (dVar 10) (aCons (dVar 3) aNil))) aNil)))
@[irreducible] def d_law_6 : DS := (dFor [5] (iRg1 (aCons (dOp oPlus (dC (.int 1)) (dOf (dCallU c__law_draw [.u 0, .u 1] [] 2 0 (aCons (dVar 1) (aCons (dC (.int 2)) aNil)) aNil))) aNil)) (gN 5)
  d_law_5)
@[irreducible] def d_law_7 : DS := (dIf (dTest (dOp (oEqX true) (dLam d__law_told "law.<locals>.<lambda>" 4 (dOf (dCallU c__law_sheet [.u 0, .u 1] [] 2 0 (aCons (dVar 8) (aCons (dVar 10) aNil)) aNil))) (dOf (dCallU c__law_due [.u 0, .u 1] [] 2 0 (aCons (dVar 3) (aCons (dVar 10) aNil)) aNil))))
  (dRet (dC (.bl false)))
  dNext)
@[irreducible] def d_law_8 : DS := (dAsg 11 (dOf (dCallU c__law_sheet [.u 0, .u 1] [] 2 0 (aCons (dVar 8) (aCons (dVar 4) aNil)) aNil)))
@[irreducible] def d_law_9 : DS := (dAsg 6 (dTup (aCons (dOf (dMethU c_Sheet_homes 4 [] [] 0 0 (dVar 11) aNil aNil)) (aCons (dOf (dMethU c_Sheet_pieces 4 [] [] 0 0 (dVar 11) aNil aNil)) aNil))))
@[irreducible] def d_law_10 : DS := (dAsgO 7 (lDisp (aCons (dLam d__law_told "law.<locals>.<lambda>" 4 (dOf (dMethU c_Sheet_got 4 [.u 0] [] 1 0 (dVar 11) (aCons (dVar 9) aNil) aNil))) aNil)))
@[irreducible] def d_law_11 : DS := (dExpr (dMutL fAppend (dVar 7) (aCons (dLam d__law_told "law.<locals>.<lambda>" 4 (dOf (dMethU c_Sheet_waste 4 [.u 0] [] 1 0 (dVar 11) (aCons (dVar 9) aNil) aNil))) aNil)))
@[irreducible] def d_law_12 : DS := (dExpr (dMutL fAppend (dVar 7) (aCons (dLam d__law_told "law.<locals>.<lambda>" 4 (dOf (dMethU c_Sheet_made_by 4 [.u 0] [] 1 0 (dVar 11) (aCons (dVar 9) aNil) aNil))) aNil)))
@[irreducible] def d_law_13 : DS := (dIf (dTest (dOp (oEqX true) (dVar 7) (dOp oTimes (dFz (lDisp (aCons (dTup (aCons (dC (.str "home")) (aCons (dVar 9) aNil))) aNil))) (dC (.int 3)))))
  (dRet (dC (.bl false)))
  dNext)
@[irreducible] def d_law_14 : DS := (dIf (dTest (dOp (oInX true) (dVar 9) (dVar 3)))
  (dSeq d_law_10
  (dSeq d_law_11
  (dSeq d_law_12
  d_law_13)))
  dNext)
@[irreducible] def d_law_15 : DS := (dAsgO 7 (lDisp (aCons (dLam d__law_told "law.<locals>.<lambda>" 4 (dOf (dMethU c_Sheet_yarn 4 [.u 0] [] 1 0 (dVar 11) (aCons (dVar 9) aNil) aNil))) aNil)))
@[irreducible] def d_law_16 : DS := (dExpr (dMutL fAppend (dVar 7) (aCons (dLam d__law_told "law.<locals>.<lambda>" 4 (dOf (dMethU c_Sheet_makers 4 [.u 0] [] 1 0 (dVar 11) (aCons (dVar 9) aNil) aNil))) aNil)))
@[irreducible] def d_law_17 : DS := (dIf (dOr (dTest (dOp (oEqX true) (dVar 7) (dOp oTimes (dFz (lDisp (aCons (dTup (aCons (dC (.str "piece")) (aCons (dVar 9) aNil))) aNil))) (dC (.int 2))))) (dTest (dOp (oEqX true) (dTup (aCons (dOf (dMethU c_Sheet_homes 4 [] [] 0 0 (dVar 11) aNil aNil)) (aCons (dOf (dMethU c_Sheet_pieces 4 [] [] 0 0 (dVar 11) aNil aNil)) aNil))) (dVar 6))))
  (dRet (dC (.bl false)))
  dNext)
@[irreducible] def d_law_18 : DS := (dIf (dTest (dOp (oInX true) (dVar 9) (dOp oSub' (dVar 6) (dC (.int 1)))))
  (dSeq d_law_15
  (dSeq d_law_16
  d_law_17))
  dNext)
@[irreducible] def d_law_19 : DS := (dFor [7, 9] (iSq (dFz (lDisp (aCons (dC (.str "out")) (aCons (dCutS (dOp oPlus (dOp oSub' (dOp oSub' (dVar 4) (dC (.int 0))) (dC (.int 0))) (dC (.str "q"))) oNone (oPart (dC (.int 12)))) (aCons (dCutS (dOp oPlus (dOp oSub' (dVar 3) (dC (.int 0))) (dC (.str "q"))) oNone (oPart (dC (.int 12)))) aNil)))))) (gN 9)
  (dSeq d_law_14
  d_law_18))
@[irreducible] def d_law_20 : DS := (dFor [2, 3, 4, 5, 6, 7, 8, 9, 10, 11] (iRg1 (aCons (dOp oPlus (dC (.int 1)) (dCB cMin2 (aCons (dC (.int 3)) (aCons (dOp oDiv (dCB cLen (aCons (dVar 0) aNil)) (dC (.int 6))) aNil)))) aNil)) (gN 2)
  (dSeq d_law_2
  (dSeq d_law_3
  (dSeq d_law_4
  (dSeq (dAsg 10 (dVar 4))
  (dSeq d_law_6
  (dSeq d_law_7
  (dSeq d_law_8
  (dSeq d_law_9
  d_law_19)))))))))
def d_law : DS := (dSeq d_law_1
  (dSeq d_law_20
  (dRet (dC (.bl true)))))
section
variable {D : DEnds} {x0 x2 x5 x6 x7 x8 x9 x10 x11 : Sl} {n : Nat} {p : Pen} {gs : List Give} {ps rs : List Piece} {ns : List Str}
abbrev nsS (ns : List Str) : Sl := .lo (.fz (txL ns))
abbrev gsS (gs : List Give) : Sl := .lo (.fz (.lst (gs.map giveW)))
abbrev psS (ps : List Piece) : Sl := .lo (.fz (.lst (ps.map pieceW)))
theorem law_2 (hp : PenB n p) (hn : n ≤ 900000) (h : ∀ ns p', 2 ≤ ns.length → ns.length ≤ 5 → (∀ s ∈ ns, Nm s) → ns.Nodup → PenB (n + 21) p' → D.nx [x0, .lo (penT p'), x2, nsS ns, .un, .un, .un, .un, .un, .un, .un, .un]) :
    d_law_2 D [x0, .lo (penT p), x2, .un, .un, .un, .un, .un, .un, .un, .un, .un] := by
  unfold d_law_2
  refine ⟨rfl, n, p, 4, rfl, hp, by omega, by decide, by decide, fun d p1 a1 b1 hp1 => ?_⟩
  obtain ⟨m, rfl⟩ : ∃ m : Nat, d = m := ⟨d.toNat, by omega⟩
  exact ⟨rfl, n + 1, p1, 2 + m, rfl, hp1, by omega, by omega, fun ns p2 l nm nd hp2 => h ns p2 (by omega) (by omega) nm (nd (by omega)) (hp2.mono (by omega))⟩
theorem law_3 (hp : PenB n p) (hn : n ≤ 900000) (l5 : ns.length ≤ 5) (h : ∀ gs p', (∀ x, x ∈ homesOf gs ↔ x ∈ ns) → gs.length ≤ 10 → PenB (n + 200) p' → D.nx [x0, .lo (penT p'), x2, nsS ns, .un, .un, .un, .un, gsS gs, .un, .un, .un]) :
    d_law_3 D [x0, .lo (penT p), x2, nsS ns, .un, .un, .un, .un, .un, .un, .un, .un] := by
  unfold d_law_3
  exact ⟨rfl, n, p, ns, rfl, hp, by omega, l5, h⟩
structure Right (ns : List Str) (rs : List Piece) : Prop where
  l1 : 1 ≤ rs.length
  l5 : rs.length ≤ 5
  nd : (titles rs).Nodup
  nm : ∀ p ∈ rs, Nm p.1
  ms : ∀ p ∈ rs, p.2.2.Nodup ∧ p.2.2 ≠ [] ∧ p.2.2.length ≤ 4 ∧ ∀ m ∈ p.2.2, m ∈ ns
theorem Right.rows (r : Right ns rs) : Rows 4 rs := ⟨fun e => by have := r.l1; rw [e] at this; exact absurd this (by decide), r.l5, fun p hp => (r.nm p hp).l1, fun p hp => ⟨(r.ms p hp).2.1, (r.ms p hp).2.2.1⟩⟩
theorem law_4 (hp : PenB n p) (hn : n ≤ 900000) (l1 : 2 ≤ ns.length) (l5 : ns.length ≤ 5) (nd : ns.Nodup) (h : ∀ rs p', Right ns rs → PenB (n + 201) p' → D.nx [x0, .lo (penT p'), x2, nsS ns, psS rs, .un, .un, .un, gsS gs, .un, .un, .un]) :
    d_law_4 D [x0, .lo (penT p), x2, nsS ns, .un, .un, .un, .un, gsS gs, .un, .un, .un] := by
  unfold d_law_4
  refine ⟨rfl, n, p, 5, rfl, hp, by omega, by decide, by decide, fun d p1 a1 b1 hp1 => ?_⟩
  obtain ⟨m, rfl⟩ : ∃ m : Nat, d = m := ⟨d.toNat, by omega⟩
  exact ⟨rfl, n + 1, p1, ns, 1 + m, rfl, hp1, by omega, by omega, l5, nd, by omega, by omega, fun rs p2 l nd' nm ms hp2 => h rs p2 ⟨by omega, by omega, nd', nm, ms⟩ (hp2.mono (by omega))⟩
theorem law_6 (hp : PenB n p) (hn : n ≤ 900000) (l1 : 2 ≤ ns.length) (l5 : ns.length ≤ 5) (r : Rows 4 rs) {x4 : Sl} (h : ∀ ps p', Rows 6 ps → PenB (n + 30) p' → D.nx [x0, .lo (penT p'), x2, nsS ns, x4, .un, .un, .un, gsS gs, .un, psS ps, .un]) :
    d_law_6 D [x0, .lo (penT p), x2, nsS ns, x4, .un, .un, .un, gsS gs, .un, psS rs, .un] := by
  unfold d_law_6
  refine ⟨rfl, n, p, 2, rfl, hp, by omega, by decide, by decide, fun d p1 a1 b1 hp1 => ⟨⟨by omega, by omega⟩, ?_⟩⟩
  refine for_ind (fun j st => j ≤ 2 ∧ ∃ (ps : List Piece) (p' : Pen), Rows (4 + j) ps ∧ PenB (n + 1 + 10 * j) p' ∧ st = [x0, .lo (penT p'), x2, nsS ns, x4, .un, .un, .un, gsS gs, .un, psS ps, .un]) ⟨by decide, rs, p1, r, hp1, rfl⟩ ?_ ?_
  · rintro j w hw kk hkk st ⟨_, ps, p', rr, hp', rfl⟩
    have hj : j < 2 := by
      have := (List.getElem?_eq_some_iff.mp hw).1
      rw [List.length_map, List.length_range] at this
      omega
    rw [List.getElem?_map] at hw
    obtain ⟨j', _, rfl⟩ := Option.map_eq_some_iff.mp hw
    show d_law_5 _ _
    unfold d_law_5
    exact ⟨rfl, _, p', ps, ns, 4 + j, rfl, hp', by omega, rr, by omega, by omega, l5, fun ps' p2 r' hp2 => hkk _ ⟨by omega, ps', p2, r', hp2.mono (by omega), rfl⟩⟩
  · rintro st ⟨h2, ps, p', rr, hp', rfl⟩
    rw [List.length_map, List.length_range] at h2 rr hp'
    exact h ps p' (rr.mono (by omega)) (hp'.mono (by omega))
theorem law_7 (hg : ∀ x, x ∈ homesOf gs ↔ x ∈ ns) (gl : gs.length ≤ 10) (l5 : ns.length ≤ 5) (r : Rows 6 ps) {x4 : Sl} (h : D.nx [x0, .lo (penT p), x2, nsS ns, x4, .un, .un, .un, gsS gs, .un, psS ps, .un]) :
    d_law_7 D [x0, .lo (penT p), x2, nsS ns, x4, .un, .un, .un, gsS gs, .un, psS ps, .un] := by
  unfold d_law_7
  have pl := r.pl
  have ed := duePs_eq hg ps []
  have m20 : ∀ p ∈ ps, p.2.2.length ≤ 20 := fun p hp => by have := (r.ms p hp).2; omega
  have m64 : ∀ p ∈ ps, p.2.2.length < 64 := fun p hp => by have := (r.ms p hp).2; omega
  cases hd : duePs (homesOf gs) [] ps with
  | none =>
    rw [hd] at ed
    refine lam_no (w := sheetW gs ps) (fun k' x' hk' => ⟨rfl, gs, ps, rfl, by omega, by omega, m64, fun _ => hk', fun e z => by rw [hd] at z; cases z⟩) ?_
    refine ⟨rfl, ns, ps, rfl, l5, pl, m20, ?_⟩
    rw [← ed]
    exact Or.inr ⟨true, rfl, no h⟩
  | some e =>
    rw [hd] at ed
    obtain ⟨s, hs⟩ := duePs_form _ _ _ hd
    rcases hs with rfl | rfl
    · refine lam_err (c := 11) (s := s) (.inl rfl) (fun k' x' hx' => ⟨rfl, gs, ps, rfl, by omega, by omega, m64, (fun z => by rw [hd] at z; cases z), (fun e z => by rw [hd] at z; cases z; exact hx')⟩) ?_
      refine ⟨rfl, ns, ps, rfl, l5, pl, m20, ?_⟩
      rw [← ed]
      exact Or.inr ⟨true, eq_twoD _ _, no h⟩
    · refine lam_err (c := 18) (s := s) (.inr (.inl rfl)) (fun k' x' hx' => ⟨rfl, gs, ps, rfl, by omega, by omega, m64, (fun z => by rw [hd] at z; cases z), (fun e z => by rw [hd] at z; cases z; exact hx')⟩) ?_
      refine ⟨rfl, ns, ps, rfl, l5, pl, m20, ?_⟩
      rw [← ed]
      exact Or.inr ⟨true, eq_twoD _ _, no h⟩
theorem law_8 (hg : ∀ x, x ∈ homesOf gs ↔ x ∈ ns) (gl : gs.length ≤ 10) (r : Right ns rs) (h : D.nx [x0, .lo (penT p), x2, nsS ns, psS rs, .un, .un, .un, gsS gs, .un, x10, .lo (.fz (sheetW gs rs))]) :
    d_law_8 D [x0, .lo (penT p), x2, nsS ns, psS rs, .un, .un, .un, gsS gs, .un, x10, .un] := by
  unfold d_law_8
  have l5 := r.l5
  have hd : duePs (homesOf gs) [] rs = none := duePs_none rs [] (by rw [List.nil_append]; exact r.nd) fun p hp => ⟨(r.ms p hp).1, fun m hm => (hg m).mpr ((r.ms p hp).2.2.2 m hm)⟩
  exact ⟨rfl, gs, rs, rfl, by omega, by omega, fun p hp => by have := (r.ms p hp).2.2.1; omega, fun _ => h, fun e z => by rw [hd] at z; cases z⟩
abbrev keS (gs : List Give) (rs : List Piece) : Sl := .lo (.fz (.tup [txL (srtU (homesOf gs)), txL (titles rs)]))
theorem law_9 (gl : gs.length ≤ 10) (h : D.nx [x0, .lo (penT p), x2, nsS ns, psS rs, .un, keS gs rs, .un, gsS gs, .un, x10, .lo (.fz (sheetW gs rs))]) :
    d_law_9 D [x0, .lo (penT p), x2, nsS ns, psS rs, .un, .un, .un, gsS gs, .un, x10, .lo (.fz (sheetW gs rs))] := by
  unfold d_law_9
  exact ⟨rfl, rfl, _, gs, rfl, .inl ⟨_, rfl⟩, by omega, rfl, rfl, _, rs, rfl, lel 2 rfl, h⟩
abbrev stL (x0 : Sl) (p : Pen) (x2 : Sl) (ns : List Str) (rs : List Piece) (gs : List Give) (x7 x9 x10 : Sl) : S := [x0, .lo (penT p), x2, nsS ns, psS rs, .un, keS gs rs, x7, gsS gs, x9, x10, .lo (.fz (sheetW gs rs))]
theorem law_14 {s : Str} (hg : ∀ x, x ∈ homesOf gs ↔ x ∈ ns) (gl : gs.length ≤ 10) (h : ∀ x7, (x7 = .un ∨ ∃ ws, x7 = .lo (.lst ws)) → D.nx (stL x0 p x2 ns rs gs x7 (.lo (.fz (.str s))) x10)) :
    d_law_14 D (stL x0 p x2 ns rs gs .un (.lo (.fz (.str s))) x10) := by
  unfold d_law_14
  refine ⟨_, inL s ns, brn (fun hm => ?_) fun _ => h _ (.inl rfl)⟩
  have hn : ¬ s ∈ homesOf gs := fun z => hm ((hg s).mp z)
  show d_law_10 _ _
  unfold d_law_10
  refine lam_err (c := 18) (s := s) (.inr (.inl rfl)) (fun k' x' hx' => ⟨rfl, rfl, gs, _, s, rfl, by omega, .inr ⟨hn, hx'⟩⟩) ⟨lel 1 rfl, ?_⟩
  show d_law_11 _ _
  unfold d_law_11
  refine lam_err (c := 18) (s := s) (.inr (.inl rfl)) (fun k' x' hx' => ⟨rfl, rfl, gs, _, s, rfl, by omega, .inr ⟨hn, hx'⟩⟩) ⟨szN (show 1 ≤ 1000 by decide), ?_⟩
  show d_law_12 _ _
  unfold d_law_12
  refine lam_err (c := 18) (s := s) (.inr (.inl rfl)) (fun k' x' hx' => ⟨rfl, rfl, gs, rs, s, rfl, by omega, hn, hx'⟩) ⟨szN (show 2 ≤ 1000 by decide), ?_⟩
  show d_law_13 _ _
  unfold d_law_13
  refine ⟨lel 2 rfl, lel 1 rfl, ⟨by decide, by decide, by show 1 * 3 ≤ _; decide⟩, Or.inr ⟨true, ?_, no (h _ (.inr ⟨_, rfl⟩))⟩⟩
  refine eqWs_sf (n := 6) [_, _, _] fun x hx => ?_
  have : x = .tup [.str (wdE 18), .str s] := by simpa using hx
  rw [this]
  exact eq_two _ _
theorem law_18 {s : Str} (e7 : x7 = .un ∨ ∃ ws, x7 = .lo (.lst ws)) (gl : gs.length ≤ 10) (h : ∀ x7, D.nx (stL x0 p x2 ns rs gs x7 (.lo (.fz (.str s))) x10)) :
    d_law_18 D (stL x0 p x2 ns rs gs x7 (.lo (.fz (.str s))) x10) := by
  unfold d_law_18
  refine ⟨_, L2.atI_nat (j := 1) rfl, _, inL s (titles rs), brn (fun hm => ?_) fun _ => h _⟩
  have go : ∀ x7 : Sl, (x7 = .un ∨ ∃ ws, x7 = .lo (.lst ws)) → ∀ {D : DEnds}, (∀ x7, D.nx (stL x0 p x2 ns rs gs x7 (.lo (.fz (.str s))) x10)) → dSeq d_law_15 (dSeq d_law_16 d_law_17) D (stL x0 p x2 ns rs gs x7 (.lo (.fz (.str s))) x10) := fun x7 e7 D h => by
    show d_law_15 _ _
    unfold d_law_15
    refine lam_err (c := 19) (s := s) (.inr (.inr rfl)) (fun k' x' hx' => ⟨rfl, rfl, .inr ⟨_, rs, s, rfl, hm, hx'⟩⟩) ⟨lel 1 rfl, ?_⟩
    have r1 : ∀ {D : DEnds}, (∀ x7, D.nx (stL x0 p x2 ns rs gs x7 (.lo (.fz (.str s))) x10)) → dSeq d_law_16 d_law_17 D (stL x0 p x2 ns rs gs (.lo (.lst [W.tup [.str (wdE 19), .str s]])) (.lo (.fz (.str s))) x10) := fun {D} h => by
      show d_law_16 _ _
      unfold d_law_16
      refine lam_err (c := 19) (s := s) (.inr (.inr rfl)) (fun k' x' hx' => ⟨rfl, rfl, .inr ⟨_, rs, s, rfl, hm, hx'⟩⟩) ⟨szN (show 1 ≤ 1000 by decide), ?_⟩
      show d_law_17 _ _
      unfold d_law_17
      refine ⟨lel 2 rfl, lel 1 rfl, ⟨by decide, by decide, by show 1 * 2 ≤ _; decide⟩, Or.inr ⟨true, ?_, no ⟨rfl, rfl, _, gs, rfl, .inl ⟨_, rfl⟩, by omega, rfl, rfl, _, rs, rfl, lel 2 rfl, Or.inr ⟨true, eq_lists _ _, no (h _)⟩⟩⟩⟩
      refine eqWs_sf (n := 6) [_, _] fun x hx => ?_
      have : x = .tup [.str (wdE 19), .str s] := by simpa using hx
      rw [this]
      exact eq_two _ _
    rcases e7 with rfl | ⟨ws, rfl⟩
    · exact r1 h
    · exact r1 h
  exact go x7 e7 h
end
theorem law_19 {D : DEnds} {x0 x2 x10 : Sl} {p : Pen} {gs : List Give} {rs : List Piece} {ns : List Str} (hg : ∀ x, x ∈ homesOf gs ↔ x ∈ ns) (gl : gs.length ≤ 10) (n2 : 2 ≤ ns.length) (nm : ∀ s ∈ ns, Nm s) (r : Right ns rs)
    (h : D.nx (stL x0 p x2 ns rs gs .un .un x10)) : d_law_19 D (stL x0 p x2 ns rs gs .un .un x10) := by
  unfold d_law_19
  obtain ⟨q, rs', rfl⟩ : ∃ q rs', rs = q :: rs' := by
    cases rs with
    | nil => exact absurd r.l1 (by decide)
    | cons q rs' => exact ⟨q, rs', rfl⟩
  obtain ⟨a, ns', rfl⟩ : ∃ a ns', ns = a :: ns' := by
    cases ns with
    | nil => exact absurd n2 (by decide)
    | cons a ns' => exact ⟨a, ns', rfl⟩
  have sq : SL q.1 12 := (r.nm q (by simp)).l1
  have sa : SL a 12 := (nm a (by simp)).l1
  have s1 : SL (Str.ofString "q") 1 := by show (Str.ofString "q").length ≤ 1; decide +kernel
  refine ⟨_, L2.atI_nat (j := 0) rfl, _, L2.atI_nat (j := 0) rfl, (sq.app s1).sum rfl, Nat.le_trans (sq.app s1) (by decide), _, L2.atI_nat (j := 0) rfl, (sa.app s1).sum rfl, Nat.le_trans (sa.app s1) (by decide), lel 3 rfl, ?_⟩
  refine for_ind (fun j st => st = stL x0 p x2 (a :: ns') (q :: rs') gs .un .un x10) rfl ?_ ?_
  · rintro j w hw kk hkk st rfl
    obtain ⟨s, rfl⟩ : ∃ s, w = .str s := by
      have hm := List.mem_of_getElem? hw
      rcases List.mem_cons.mp hm with rfl | hm
      · exact ⟨_, rfl⟩
      rcases List.mem_cons.mp hm with rfl | hm
      · exact ⟨_, rfl⟩
      rw [List.mem_singleton.mp hm]
      exact ⟨_, rfl⟩
    refine law_14 (D := { nx := _, rt := D.rt, bk := _, ct := _, ex := D.ex }) hg gl fun x7 e7 => ?_
    exact law_18 (D := { nx := _, rt := D.rt, bk := _, ct := _, ex := D.ex }) e7 gl fun x7 => hkk _ rfl
  · rintro st rfl
    exact h
theorem law_20 {D : DEnds} {ns : List Int} {p : Pen} (hp : PenB 0 p) (hl : ns.length ≤ 63) (h : ∀ p', D.nx [.lo (.fz (.scr ns)), .lo (penT p'), .un, .un, .un, .un, .un, .un, .un, .un, .un, .un]) : d_law_20 D [.lo (.fz (.scr ns)), .lo (penT p), .un, .un, .un, .un, .un, .un, .un, .un, .un, .un] := by
  unfold d_law_20
  have hm : (if (ns.length : Int) / 6 < 3 then (ns.length : Int) / 6 else 3) ≤ 3 := by split <;> omega
  have hm0 : 0 ≤ (if (ns.length : Int) / 6 < 3 then (ns.length : Int) / 6 else 3) := by split <;> omega
  refine ⟨div_ok (by decide) (by decide), ⟨by omega, by omega⟩, ?_⟩
  refine for_ind (fun j st => ∃ p', PenB (1000 * j) p' ∧ st = [.lo (.fz (.scr ns)), .lo (penT p'), .un, .un, .un, .un, .un, .un, .un, .un, .un, .un]) ⟨p, hp, rfl⟩ ?_ ?_
  · rintro j w hw kk hkk st ⟨p', hp', rfl⟩
    have hj : j < 4 := by
      have := (List.getElem?_eq_some_iff.mp hw).1
      rw [List.length_map, List.length_range] at this
      omega
    rw [List.getElem?_map] at hw
    obtain ⟨j', h1, rfl⟩ := Option.map_eq_some_iff.mp hw
    refine law_2 (D := { nx := _, rt := D.rt, bk := _, ct := _, ex := D.ex }) hp' (by omega) fun names p1 n2 n5 nm nd hp1 => ?_
    refine law_3 (D := { nx := _, rt := D.rt, bk := _, ct := _, ex := D.ex }) hp1 (by omega) n5 fun gs p2 hg gl hp2 => ?_
    refine law_4 (D := { nx := _, rt := D.rt, bk := _, ct := _, ex := D.ex }) hp2 (by omega) n2 n5 nd fun rs p3 r hp3 => ?_
    refine law_6 (D := { nx := _, rt := D.rt, bk := _, ct := _, ex := D.ex }) hp3 (by omega) n2 n5 r.rows fun ps p4 rr hp4 => ?_
    refine law_7 (D := { nx := _, rt := D.rt, bk := _, ct := _, ex := D.ex }) hg gl n5 rr ?_
    refine law_8 (D := { nx := _, rt := D.rt, bk := _, ct := _, ex := D.ex }) hg gl r ?_
    refine law_9 (D := { nx := _, rt := D.rt, bk := _, ct := _, ex := D.ex }) gl ?_
    exact law_19 hg gl n2 nm r (hkk _ ⟨p4, hp4.mono (by omega), rfl⟩)
  · rintro st ⟨p', _, rfl⟩
    exact h p'
theorem m_law : Meets c_law 1 11 d_law := by
  intro ts k kx h
  obtain ⟨ns, rfl, hl, hk⟩ := h
  refine ⟨rfl, ?_⟩
  have l1 : ∀ {D : DEnds}, D.nx [.lo (.fz (.scr ns)), .lo (penT ⟨ns, 0, 0⟩), .un, .un, .un, .un, .un, .un, .un, .un, .un, .un] → d_law_1 D [.lo (.fz (.scr ns)), .un, .un, .un, .un, .un, .un, .un, .un, .un, .un, .un] := fun h => by
    unfold d_law_1
    exact ⟨rfl, ns, rfl, hl, h⟩
  refine l1 ?_
  exact law_20 ⟨Int.le_refl _, Int.le_refl _, Int.le_refl _⟩ hl fun p' => hk
end Y
/-! ## held -/
namespace Y
open PySem L2
open PySem.Spec PyProof.Rows
theorem tx_of {K : PySem.W.Frag} {mg : Str → Option Value} {h : Heap} (X : K.In h) (G : h.Ns mainGlobals mg) (c : SaysY FA FN K) : Tx K mg where
  f_Twice___init__ := c.def_ 0
  f_NoHome___init__ := c.def_ 1
  f_NoPiece___init__ := c.def_ 2
  f_Span___init__ := c.def_ 3
  f_Span___eq__ := c.def_ 4
  f_Span___len__ := c.def_ 5
  f_Span___str__ := c.def_ 6
  f_Span___repr__ := c.def_ 7
  f_Span_plus := c.def_ 8
  f_Sheet_homes := c.def_ 9
  f_Sheet_look_at := c.def_ 10
  f_Sheet___init__ := c.def_ 11
  f_Sheet_pieces := c.def_ 12
  f_Sheet_given := c.def_ 13
  f_Sheet_got := c.def_ 14
  f_Sheet_waste := c.def_ 15
  f_Sheet_row_of := c.def_ 16
  f_Sheet_yarn := c.def_ 17
  f_Sheet_makers := c.def_ 18
  f_Sheet_made_by := c.def_ 19
  f__law_pen := c.def_ 20
  f__law_draw := c.def_ 21
  f__law_names := c.def_ 22
  f__law_ends := c.def_ 23
  f__law_gives := c.def_ 24
  f__law_makers := c.def_ 25
  f__law_pieces := c.def_ 26
  f__law_sheet := c.def_ 27
  f__law_spoilt := c.def_ 28
  f__law_due := c.def_ 29
  f__law_told := c.def_ 30
  f_law := c.def_ 31
  g__law_pen := He.glo_ok X G (c.fact 0 (f := (He.Fa.glo "_law_pen").ok))
  g__law_draw := He.glo_ok X G (c.fact 1 (f := (He.Fa.glo "_law_draw").ok))
  g__law_names := He.glo_ok X G (c.fact 2 (f := (He.Fa.glo "_law_names").ok))
  g__law_ends := He.glo_ok X G (c.fact 3 (f := (He.Fa.glo "_law_ends").ok))
  g__law_gives := He.glo_ok X G (c.fact 4 (f := (He.Fa.glo "_law_gives").ok))
  g__law_makers := He.glo_ok X G (c.fact 5 (f := (He.Fa.glo "_law_makers").ok))
  g__law_pieces := He.glo_ok X G (c.fact 6 (f := (He.Fa.glo "_law_pieces").ok))
  g__law_sheet := He.glo_ok X G (c.fact 7 (f := (He.Fa.glo "_law_sheet").ok))
  g__law_spoilt := He.glo_ok X G (c.fact 8 (f := (He.Fa.glo "_law_spoilt").ok))
  g__law_due := He.glo_ok X G (c.fact 9 (f := (He.Fa.glo "_law_due").ok))
  g__law_told := He.glo_ok X G (c.fact 10 (f := (He.Fa.glo "_law_told").ok))
  g_law := He.glo_ok X G (c.fact 11 (f := (He.Fa.glo "law").ok))
  g_Span := He.glo_ok X G (c.fact 12 (f := (He.Fa.glo "Span").ok))
  g_Sheet := He.glo_ok X G (c.fact 13 (f := (He.Fa.glo "Sheet").ok))
  g_Twice := He.glo_ok X G (c.fact 14 (f := (He.Fa.glo "Twice").ok))
  g_NoHome := He.glo_ok X G (c.fact 15 (f := (He.Fa.glo "NoHome").ok))
  g_NoPiece := He.glo_ok X G (c.fact 16 (f := (He.Fa.glo "NoPiece").ok))
  n_KeyError := He.free_ok X G (c.fact 17 (f := (He.Fa.free "KeyError").ok))
  n_ValueError := He.free_ok X G (c.fact 18 (f := (He.Fa.free "ValueError").ok))
  n_abs := He.free_ok X G (c.fact 19 (f := (He.Fa.free "abs").ok))
  n_enumerate := He.free_ok X G (c.fact 20 (f := (He.Fa.free "enumerate").ok))
  n_isinstance := He.free_ok X G (c.fact 21 (f := (He.Fa.free "isinstance").ok))
  n_len := He.free_ok X G (c.fact 22 (f := (He.Fa.free "len").ok))
  n_list := He.free_ok X G (c.fact 23 (f := (He.Fa.free "list").ok))
  n_min := He.free_ok X G (c.fact 24 (f := (He.Fa.free "min").ok))
  n_range := He.free_ok X G (c.fact 25 (f := (He.Fa.free "range").ok))
  n_set := He.free_ok X G (c.fact 26 (f := (He.Fa.free "set").ok))
  n_sorted := He.free_ok X G (c.fact 27 (f := (He.Fa.free "sorted").ok))
  n_sum := He.free_ok X G (c.fact 28 (f := (He.Fa.free "sum").ok))
  n_tuple := He.free_ok X G (c.fact 29 (f := (He.Fa.free "tuple").ok))
  ck := (clsB_ok (c.fact 30 (f := clsB hsC))).ts
  tb := tabB_ok (c.fact 31 (f := tabB tsC))
  co_law := codeB_ok (c.fact 32 (f := codeB "law"))
  cl_Span := He.cls_ok (c.fact 33 (f := (He.Fa.cls "Span").ok))
  cl_Sheet := He.cls_ok (c.fact 34 (f := (He.Fa.cls "Sheet").ok))
  na_Sheet_gives := He.noat_ok (c.fact 35 (f := (He.Fa.noat "Sheet" "gives").ok))
  na_Sheet_told := He.noat_ok (c.fact 36 (f := (He.Fa.noat "Sheet" "told").ok))
  na_Span_least := He.noat_ok (c.fact 37 (f := (He.Fa.noat "Span" "least").ok))
  na_Span_most := He.noat_ok (c.fact 38 (f := (He.Fa.noat "Span" "most").ok))
  mt_Sheet_given := He.meth_ok (c.fact 39 (f := (He.Fa.meth "Sheet" "given").ok))
  mt_Sheet_got := He.meth_ok (c.fact 40 (f := (He.Fa.meth "Sheet" "got").ok))
  mt_Sheet_homes := He.meth_ok (c.fact 41 (f := (He.Fa.meth "Sheet" "homes").ok))
  mt_Sheet_look_at := He.meth_ok (c.fact 42 (f := (He.Fa.meth "Sheet" "look_at").ok))
  mt_Sheet_made_by := He.meth_ok (c.fact 43 (f := (He.Fa.meth "Sheet" "made_by").ok))
  mt_Sheet_makers := He.meth_ok (c.fact 44 (f := (He.Fa.meth "Sheet" "makers").ok))
  mt_Sheet_pieces := He.meth_ok (c.fact 45 (f := (He.Fa.meth "Sheet" "pieces").ok))
  mt_Sheet_row_of := He.meth_ok (c.fact 46 (f := (He.Fa.meth "Sheet" "row_of").ok))
  mt_Sheet_waste := He.meth_ok (c.fact 47 (f := (He.Fa.meth "Sheet" "waste").ok))
  mt_Sheet_yarn := He.meth_ok (c.fact 48 (f := (He.Fa.meth "Sheet" "yarn").ok))
  mt_Span_plus := He.meth_ok (c.fact 49 (f := (He.Fa.meth "Span" "plus").ok))
  mk_Sheet := He.mkr_ok (c.fact 50 (f := (He.Fa.mkr "Sheet").ok))
  mk_Span := He.mkr_ok (c.fact 51 (f := (He.Fa.mkr "Span").ok))
  io_Span := (isB_ok (by first | rfl | trivial) (c.fact 52 (f := isB hsC (.i 0)))).ts
  eq_Span := He.meth_ok (c.fact 53 (f := (He.Fa.meth "Span" "__eq__").ok))
  ne_Span := neB_ok (c.fact 54 (f := neB "Span"))
  iC_NoHome := of_decide_eq_true (c.fact 55 (f := (fun K => decide (PySem.W.findIn K (.ref (He.ga K "NoHome")) "__init__" = some (some (.ref (He.ma K (He.ga K "NoHome") "__init__")))))))
  iC_NoPiece := of_decide_eq_true (c.fact 56 (f := (fun K => decide (PySem.W.findIn K (.ref (He.ga K "NoPiece")) "__init__" = some (some (.ref (He.ma K (He.ga K "NoPiece") "__init__")))))))
  iC_Twice := of_decide_eq_true (c.fact 57 (f := (fun K => decide (PySem.W.findIn K (.ref (He.ga K "Twice")) "__init__" = some (some (.ref (He.ma K (He.ga K "Twice") "__init__")))))))
  oex_NoHome := oexB_ok (c.fact 58 (f := (oexB "NoHome" bm_KeyError "LookupError.__new__")))
  oex_NoPiece := oexB_ok (c.fact 59 (f := (oexB "NoPiece" bm_KeyError "LookupError.__new__")))
  oex_Twice := oexB_ok (c.fact 60 (f := (oexB "Twice" bm_ValueError "ValueError.__new__")))
  tI_NoHome := of_decide_eq_true (c.fact 61 (f := (fun K => decide (PySem.W.typeIn K (.ref (He.ma K (He.ga K "NoHome") "__init__")) = some (.type "function")))))
  tI_NoPiece := of_decide_eq_true (c.fact 62 (f := (fun K => decide (PySem.W.typeIn K (.ref (He.ma K (He.ga K "NoPiece") "__init__")) = some (.type "function")))))
  tI_Twice := of_decide_eq_true (c.fact 63 (f := (fun K => decide (PySem.W.typeIn K (.ref (He.ma K (He.ga K "Twice") "__init__")) = some (.type "function")))))
  xc_NoHome := xcB_ok (c.fact 64 (f := (fun K => xcB K (He.ga K "NoHome"))))
  xc_NoPiece := xcB_ok (c.fact 65 (f := (fun K => xcB K (He.ga K "NoPiece"))))
  xc_Twice := xcB_ok (c.fact 66 (f := (fun K => xcB K (He.ga K "Twice"))))
  xk_NoHome_KeyError := of_decide_eq_true (c.fact 67 (f := (fun K => decide (PySem.W.kitOne K (.ref (He.ga K "NoHome")) (.type "KeyError") = some true))))
  xk_NoHome_NoHome := of_decide_eq_true (c.fact 68 (f := (fun K => decide (PySem.W.kitOne K (.ref (He.ga K "NoHome")) (.ref (He.ga K "NoHome")) = some true))))
  xk_NoHome_NoPiece := of_decide_eq_true (c.fact 69 (f := (fun K => decide (PySem.W.kitOne K (.ref (He.ga K "NoHome")) (.ref (He.ga K "NoPiece")) = some false))))
  xk_NoHome_Twice := of_decide_eq_true (c.fact 70 (f := (fun K => decide (PySem.W.kitOne K (.ref (He.ga K "NoHome")) (.ref (He.ga K "Twice")) = some false))))
  xk_NoHome_ValueError := of_decide_eq_true (c.fact 71 (f := (fun K => decide (PySem.W.kitOne K (.ref (He.ga K "NoHome")) (.type "ValueError") = some false))))
  xk_NoPiece_KeyError := of_decide_eq_true (c.fact 72 (f := (fun K => decide (PySem.W.kitOne K (.ref (He.ga K "NoPiece")) (.type "KeyError") = some true))))
  xk_NoPiece_NoHome := of_decide_eq_true (c.fact 73 (f := (fun K => decide (PySem.W.kitOne K (.ref (He.ga K "NoPiece")) (.ref (He.ga K "NoHome")) = some false))))
  xk_NoPiece_NoPiece := of_decide_eq_true (c.fact 74 (f := (fun K => decide (PySem.W.kitOne K (.ref (He.ga K "NoPiece")) (.ref (He.ga K "NoPiece")) = some true))))
  xk_NoPiece_Twice := of_decide_eq_true (c.fact 75 (f := (fun K => decide (PySem.W.kitOne K (.ref (He.ga K "NoPiece")) (.ref (He.ga K "Twice")) = some false))))
  xk_NoPiece_ValueError := of_decide_eq_true (c.fact 76 (f := (fun K => decide (PySem.W.kitOne K (.ref (He.ga K "NoPiece")) (.type "ValueError") = some false))))
  xk_Twice_KeyError := of_decide_eq_true (c.fact 77 (f := (fun K => decide (PySem.W.kitOne K (.ref (He.ga K "Twice")) (.type "KeyError") = some false))))
  xk_Twice_NoHome := of_decide_eq_true (c.fact 78 (f := (fun K => decide (PySem.W.kitOne K (.ref (He.ga K "Twice")) (.ref (He.ga K "NoHome")) = some false))))
  xk_Twice_NoPiece := of_decide_eq_true (c.fact 79 (f := (fun K => decide (PySem.W.kitOne K (.ref (He.ga K "Twice")) (.ref (He.ga K "NoPiece")) = some false))))
  xk_Twice_Twice := of_decide_eq_true (c.fact 80 (f := (fun K => decide (PySem.W.kitOne K (.ref (He.ga K "Twice")) (.ref (He.ga K "Twice")) = some true))))
  xk_Twice_ValueError := of_decide_eq_true (c.fact 81 (f := (fun K => decide (PySem.W.kitOne K (.ref (He.ga K "Twice")) (.type "ValueError") = some true))))
  xm_NoHome_Twice_NoHome_NoPiece := of_decide_eq_true (c.fact 82 (f := (fun K => decide (PySem.W.exmAny K (.ref (He.ga K "NoHome")) [(.ref (He.ga K "Twice")), (.ref (He.ga K "NoHome")), (.ref (He.ga K "NoPiece"))] = some true))))
  xm_NoPiece_Twice_NoHome_NoPiece := of_decide_eq_true (c.fact 83 (f := (fun K => decide (PySem.W.exmAny K (.ref (He.ga K "NoPiece")) [(.ref (He.ga K "Twice")), (.ref (He.ga K "NoHome")), (.ref (He.ga K "NoPiece"))] = some true))))
  xm_Twice_Twice_NoHome_NoPiece := of_decide_eq_true (c.fact 84 (f := (fun K => decide (PySem.W.exmAny K (.ref (He.ga K "Twice")) [(.ref (He.ga K "Twice")), (.ref (He.ga K "NoHome")), (.ref (He.ga K "NoPiece"))] = some true))))
  xno_NoHome_name := of_decide_eq_true (c.fact 85 (f := (fun K => decide (PySem.W.findIn K (.ref (He.ga K "NoHome")) "name" = some none))))
  xno_NoPiece_name := of_decide_eq_true (c.fact 86 (f := (fun K => decide (PySem.W.findIn K (.ref (He.ga K "NoPiece")) "name" = some none))))
  xno_Twice_name := of_decide_eq_true (c.fact 87 (f := (fun K => decide (PySem.W.findIn K (.ref (He.ga K "Twice")) "name" = some none))))
section
variable {K : PySem.W.Frag} {mg : Str → Option Value}
theorem ok_Span___eq__ (P : Program) (w : World) (base : Heap) (T : Tx K mg) : ∃ fd, FunD K "__eq__" "Span.__eq__" (defArgs s_Span___eq__) (defBody s_Span___eq__) (defScope s_Span___eq__) [] [] (He.ma K (He.ga K "Span") "__eq__") fd ∧ FnOk P w K mg base (L2.CX P w) 1 (He.ma K (He.ga K "Span") "__eq__") fd ["self", "other"] (spOf K (zx K).z0 c_Span___eq__) := by
  obtain ⟨fd, F⟩ := T.f_Span___eq__
  have ow : EqNo K (zx K).z0 := ⟨T.ck.z0⟩
  refine ⟨fd, F, fn_okD F sc_Span___eq__ m_Span___eq__ rfl (fun cdv A outer s H E hr => ?_)⟩
  have hu := hu_of hr
  have hu64 := hr.units
  have tk : Takes (cxOf (L2.CX P w) P w K mg base N_Span___eq__ "Span.__eq__" (defScope s_Span___eq__) (He.ma K (He.ga K "Span") "__eq__") cdv A outer s H E) (fun cls d _ H => E cls d H) := takes_of rfl rfl rfl rfl
  have hx : PassesS (L2.CX P w) (cxOf (L2.CX P w) P w K mg base N_Span___eq__ "Span.__eq__" (defScope s_Span___eq__) (He.ma K (He.ga K "Span") "__eq__") cdv A outer s H E) (fun cls d _ H => E cls d H) := fun σ => passAt tk σ
  exact (zs_one (z_ret (pd_and (pd_isi ow.cls T.io_Span.z0 rfl T.n_isinstance (pd_var 1) (pe_glob rfl T.g_Span rfl)) (pd_one (pd_eq hu64 (pd_tup (pad_cons (pd_fld (cid := 0) (j := 0) (pd_var 0) rfl (T.cl_Span) T.na_Span_least) (pad_cons (pd_fld (cid := 0) (j := 1) (pd_var 0) rfl (T.cl_Span) T.na_Span_most) pad_nil))) (pd_tup (pad_cons (pd_fld (cid := 0) (j := 0) (pd_var 1) rfl (T.cl_Span) T.na_Span_least) (pad_cons (pd_fld (cid := 0) (j := 1) (pd_var 1) rfl (T.cl_Span) T.na_Span_most) pad_nil))))))))
theorem ow_ok (P : Program) (w : World) (base : Heap) (T : Tx K mg) : EqOwn P w K mg base (L2.CX P w) (zx K) 1 := by
  refine ⟨T.ck, fun c hc hz => ?_⟩
  match c, hc, hz with
  | 0, _, _ =>
    obtain ⟨fd, F, O⟩ := ok_Span___eq__ P w base T
    exact ⟨_, fd, O, T.eq_Span.at_, T.eq_Span.fn, F.bindsN (fun _ _ _ _ _ _ us hl => match us, hl with | [_, _], _ => rfl), T.ne_Span⟩
  | 1, _, hz => exact absurd hz Bool.false_ne_true
  | 2, _, hz => exact absurd hz Bool.false_ne_true
  | 3, _, hz => exact absurd hz Bool.false_ne_true
theorem ok_Twice___init__ (P : Program) (w : World) (base : Heap) (T : Tx K mg) : ∃ fd, FunD K "__init__" "Twice.__init__" (defArgs s_Twice___init__) (defBody s_Twice___init__) (defScope s_Twice___init__) [] [] (He.ma K (He.ga K "Twice") "__init__") fd ∧ FnOk P w K mg base (L2.CX P w) 1 (He.ma K (He.ga K "Twice") "__init__") fd ["self", "name"] (spE (He.ga K "Twice") ["name"]) := by
  obtain ⟨fd, F⟩ := T.f_Twice___init__
  exact ⟨fd, F, okE1 F sc_Twice___init__ T.oex_Twice T.xno_Twice_name fun cdv A outer s H E => (pss_cons (ps_expr (pe_binit eb_ValueError rfl T.n_ValueError bi_ValueError (pa_cons (pe_var (i := 0) rfl (Or.inl rfl)) (pa_cons pe_str pa_nil)))) (pss_one (ps_est eb_ValueError (pe_var (i := 0) rfl (Or.inl rfl)) (pe_var (i := 1) rfl (Or.inl rfl)))))⟩
theorem ok_NoHome___init__ (P : Program) (w : World) (base : Heap) (T : Tx K mg) : ∃ fd, FunD K "__init__" "NoHome.__init__" (defArgs s_NoHome___init__) (defBody s_NoHome___init__) (defScope s_NoHome___init__) [] [] (He.ma K (He.ga K "NoHome") "__init__") fd ∧ FnOk P w K mg base (L2.CX P w) 1 (He.ma K (He.ga K "NoHome") "__init__") fd ["self", "name"] (spE (He.ga K "NoHome") ["name"]) := by
  obtain ⟨fd, F⟩ := T.f_NoHome___init__
  exact ⟨fd, F, okE1 F sc_NoHome___init__ T.oex_NoHome T.xno_NoHome_name fun cdv A outer s H E => (pss_cons (ps_expr (pe_binit eb_KeyError rfl T.n_KeyError bi_KeyError (pa_cons (pe_var (i := 0) rfl (Or.inl rfl)) (pa_cons pe_str pa_nil)))) (pss_one (ps_est eb_KeyError (pe_var (i := 0) rfl (Or.inl rfl)) (pe_var (i := 1) rfl (Or.inl rfl)))))⟩
theorem ok_NoPiece___init__ (P : Program) (w : World) (base : Heap) (T : Tx K mg) : ∃ fd, FunD K "__init__" "NoPiece.__init__" (defArgs s_NoPiece___init__) (defBody s_NoPiece___init__) (defScope s_NoPiece___init__) [] [] (He.ma K (He.ga K "NoPiece") "__init__") fd ∧ FnOk P w K mg base (L2.CX P w) 1 (He.ma K (He.ga K "NoPiece") "__init__") fd ["self", "name"] (spE (He.ga K "NoPiece") ["name"]) := by
  obtain ⟨fd, F⟩ := T.f_NoPiece___init__
  exact ⟨fd, F, okE1 F sc_NoPiece___init__ T.oex_NoPiece T.xno_NoPiece_name fun cdv A outer s H E => (pss_cons (ps_expr (pe_binit eb_KeyError rfl T.n_KeyError bi_KeyError (pa_cons (pe_var (i := 0) rfl (Or.inl rfl)) (pa_cons pe_str pa_nil)))) (pss_one (ps_est eb_KeyError (pe_var (i := 0) rfl (Or.inl rfl)) (pe_var (i := 1) rfl (Or.inl rfl)))))⟩
theorem ok_Span___init__ (P : Program) (w : World) (base : Heap) (T : Tx K mg) : ∃ fd, FunD K "__init__" "Span.__init__" (defArgs s_Span___init__) (defBody s_Span___init__) (defScope s_Span___init__) [.non] [] (He.ma K (He.ga K "Span") "__init__") fd ∧ FnOk P w K mg base (L2.CX P w) 1 (He.ma K (He.ga K "Span") "__init__") fd ["self", "least", "most"] (spOf K (zx K) c_Span___init__) := by
  obtain ⟨fd, F⟩ := T.f_Span___init__
  refine ⟨fd, F, fn_okD F sc_Span___init__ m_Span___init__ rfl (fun cdv A outer s H E hr => ?_)⟩
  have hu := hu_of hr
  have hu64 := hr.units
  have tk : Takes (cxOf (L2.CX P w) P w K mg base N_Span___init__ "Span.__init__" (defScope s_Span___init__) (He.ma K (He.ga K "Span") "__init__") cdv A outer s H E) (fun cls d _ H => E cls d H) := takes_of rfl rfl rfl rfl
  have hx : PassesS (L2.CX P w) (cxOf (L2.CX P w) P w K mg base N_Span___init__ "Span.__init__" (defScope s_Span___init__) (He.ma K (He.ga K "Span") "__init__") cdv A outer s H E) (fun cls d _ H => E cls d H) := fun σ => passAt tk σ
  exact (zs_cons (z_fsto (i := 0) (cid := 0) (j := 0) rfl rfl T.cl_Span T.na_Span_least (pv_E (pd_var 1)))
  (zs_one (z_fsto (i := 0) (cid := 0) (j := 1) rfl rfl T.cl_Span T.na_Span_most (pv_E (pd_if (ptd_isN (pd_var 2)) (pd_var 1) (pd_var 2))))))
theorem ok_Span___len__ (P : Program) (w : World) (base : Heap) (T : Tx K mg) : ∃ fd, FunD K "__len__" "Span.__len__" (defArgs s_Span___len__) (defBody s_Span___len__) (defScope s_Span___len__) [] [] (He.ma K (He.ga K "Span") "__len__") fd ∧ FnOk P w K mg base (L2.CX P w) 1 (He.ma K (He.ga K "Span") "__len__") fd ["self"] (spOf K (zx K) c_Span___len__) := by
  obtain ⟨fd, F⟩ := T.f_Span___len__
  refine ⟨fd, F, fn_okD F sc_Span___len__ m_Span___len__ rfl (fun cdv A outer s H E hr => ?_)⟩
  have hu := hu_of hr
  have hu64 := hr.units
  have tk : Takes (cxOf (L2.CX P w) P w K mg base N_Span___len__ "Span.__len__" (defScope s_Span___len__) (He.ma K (He.ga K "Span") "__len__") cdv A outer s H E) (fun cls d _ H => E cls d H) := takes_of rfl rfl rfl rfl
  have hx : PassesS (L2.CX P w) (cxOf (L2.CX P w) P w K mg base N_Span___len__ "Span.__len__" (defScope s_Span___len__) (He.ma K (He.ga K "Span") "__len__") cdv A outer s H E) (fun cls d _ H => E cls d H) := fun σ => passAt tk σ
  exact (zs_one (z_ret (pd_lenRg2 rfl T.n_len rfl T.n_range (pd_fld (cid := 0) (j := 0) (pd_var 0) rfl (T.cl_Span) T.na_Span_least) (pd_plus (pd_fld (cid := 0) (j := 1) (pd_var 0) rfl (T.cl_Span) T.na_Span_most) pd_int))))
theorem ok_Span___str__ (P : Program) (w : World) (base : Heap) (T : Tx K mg) : ∃ fd, FunD K "__str__" "Span.__str__" (defArgs s_Span___str__) (defBody s_Span___str__) (defScope s_Span___str__) [] [] (He.ma K (He.ga K "Span") "__str__") fd ∧ FnOk P w K mg base (L2.CX P w) 10 (He.ma K (He.ga K "Span") "__str__") fd ["self"] (spOf K (zx K) c_Span___str__) := by
  obtain ⟨fd, F⟩ := T.f_Span___str__
  have ow := ow_ok P w base T
  refine ⟨fd, F, fn_okD F sc_Span___str__ m_Span___str__ rfl (fun cdv A outer s H E hr => ?_)⟩
  have hu := hu_of hr
  have hu64 := hr.units
  have tk : Takes (cxOf (L2.CX P w) P w K mg base N_Span___str__ "Span.__str__" (defScope s_Span___str__) (He.ma K (He.ga K "Span") "__str__") cdv A outer s H E) (fun cls d _ H => E cls d H) := takes_of rfl rfl rfl rfl
  have hx : PassesS (L2.CX P w) (cxOf (L2.CX P w) P w K mg base N_Span___str__ "Span.__str__" (defScope s_Span___str__) (He.ma K (He.ga K "Span") "__str__") cdv A outer s H E) (fun cls d _ H => E cls d H) := fun σ => passAt tk σ
  exact (zs_cons (z_if (ptd_eqX ow passL (hr.mono (by decide)) (pd_fld (cid := 0) (j := 0) (pd_var 0) rfl (T.cl_Span) T.na_Span_least) (pd_fld (cid := 0) (j := 1) (pd_var 0) rfl (T.cl_Span) T.na_Span_most))
  (zs_one (z_ret (pd_joined1 (pd_fmt (pd_fld (cid := 0) (j := 0) (pd_var 0) rfl (T.cl_Span) T.na_Span_least)))))
  zs_nil)
  (zs_one (z_ret (pd_joined (.cons (pd_fmt (pd_fld (cid := 0) (j := 0) (pd_var 0) rfl (T.cl_Span) T.na_Span_least)) (.cons pd_str (.cons (pd_fmt (pd_fld (cid := 0) (j := 1) (pd_var 0) rfl (T.cl_Span) T.na_Span_most)) .nil)))))))
theorem ok_Span___repr__ (P : Program) (w : World) (base : Heap) (T : Tx K mg) : ∃ fd, FunD K "__repr__" "Span.__repr__" (defArgs s_Span___repr__) (defBody s_Span___repr__) (defScope s_Span___repr__) [] [] (He.ma K (He.ga K "Span") "__repr__") fd ∧ FnOk P w K mg base (L2.CX P w) 1 (He.ma K (He.ga K "Span") "__repr__") fd ["self"] (spOf K (zx K) c_Span___repr__) := by
  obtain ⟨fd, F⟩ := T.f_Span___repr__
  refine ⟨fd, F, fn_okD F sc_Span___repr__ m_Span___repr__ rfl (fun cdv A outer s H E hr => ?_)⟩
  have hu := hu_of hr
  have hu64 := hr.units
  have tk : Takes (cxOf (L2.CX P w) P w K mg base N_Span___repr__ "Span.__repr__" (defScope s_Span___repr__) (He.ma K (He.ga K "Span") "__repr__") cdv A outer s H E) (fun cls d _ H => E cls d H) := takes_of rfl rfl rfl rfl
  have hx : PassesS (L2.CX P w) (cxOf (L2.CX P w) P w K mg base N_Span___repr__ "Span.__repr__" (defScope s_Span___repr__) (He.ma K (He.ga K "Span") "__repr__") cdv A outer s H E) (fun cls d _ H => E cls d H) := fun σ => passAt tk σ
  exact (zs_one (z_ret (pd_joined (.cons pd_str (.cons (pd_fmt (pd_fld (cid := 0) (j := 0) (pd_var 0) rfl (T.cl_Span) T.na_Span_least)) (.cons pd_str (.cons (pd_fmt (pd_fld (cid := 0) (j := 1) (pd_var 0) rfl (T.cl_Span) T.na_Span_most)) (.cons pd_str .nil))))))))
theorem ok_Span_plus (P : Program) (w : World) (base : Heap) (T : Tx K mg) : ∃ fd, FunD K "plus" "Span.plus" (defArgs s_Span_plus) (defBody s_Span_plus) (defScope s_Span_plus) [] [] (He.ma K (He.ga K "Span") "plus") fd ∧ FnOk P w K mg base (L2.CX P w) 3 (He.ma K (He.ga K "Span") "plus") fd ["self", "other"] (spOf K (zx K) c_Span_plus) := by
  obtain ⟨fd, F⟩ := T.f_Span_plus
  obtain ⟨fd_Span___init__, F_Span___init__, O_Span___init__⟩ := ok_Span___init__ P w base T
  obtain ⟨_, hb0⟩ := bindD (ps := ["self", "least", "most"]) F_Span___init__ 3 [] (shp [.u 0, .u 1]) (List.cons_ne_nil _ _) (fun _ _ _ _ _ _ _ us its ws h1 h2 h3 => match us, its, ws, h1, h2, h3 with | [_, _, _], [_], [], _, _, _ => ⟨_, rfl, rfl⟩)
  refine ⟨fd, F, fn_okD F sc_Span_plus m_Span_plus rfl (fun cdv A outer s H E hr => ?_)⟩
  have hu := hu_of hr
  have hu64 := hr.units
  have tk : Takes (cxOf (L2.CX P w) P w K mg base N_Span_plus "Span.plus" (defScope s_Span_plus) (He.ma K (He.ga K "Span") "plus") cdv A outer s H E) (fun cls d _ H => E cls d H) := takes_of rfl rfl rfl rfl
  have hx : PassesS (L2.CX P w) (cxOf (L2.CX P w) P w K mg base N_Span_plus "Span.plus" (defScope s_Span_plus) (He.ma K (He.ga K "Span") "plus") cdv A outer s H E) (fun cls d _ H => E cls d H) := fun σ => passAt tk σ
  exact (zs_one (z_ret (pd_lk (pv_makeU (cid := 0) rfl T.mk_Span rfl O_Span___init__ (hr.mono (by decide)) rfl T.g_Span hb0 (fun _ => (.cons .non .nil)) hx (pad_cons (pd_plus (pd_fld (cid := 0) (j := 0) (pd_var 0) rfl (T.cl_Span) T.na_Span_least) (pd_fld (cid := 0) (j := 0) (pd_var 1) rfl (T.cl_Span) T.na_Span_least)) (pad_cons (pd_plus (pd_fld (cid := 0) (j := 1) (pd_var 0) rfl (T.cl_Span) T.na_Span_most) (pd_fld (cid := 0) (j := 1) (pd_var 1) rfl (T.cl_Span) T.na_Span_most)) pad_nil)) pkd_nil))))
theorem ok_Sheet_homes (P : Program) (w : World) (base : Heap) (T : Tx K mg) : ∃ fd, FunD K "homes" "Sheet.homes" (defArgs s_Sheet_homes) (defBody s_Sheet_homes) (defScope s_Sheet_homes) [] [] (He.ma K (He.ga K "Sheet") "homes") fd ∧ FnOk P w K mg base (L2.CX P w) 1 (He.ma K (He.ga K "Sheet") "homes") fd ["self"] (spOf K (zx K) c_Sheet_homes) := by
  obtain ⟨fd, F⟩ := T.f_Sheet_homes
  refine ⟨fd, F, fn_okD F sc_Sheet_homes m_Sheet_homes rfl (fun cdv A outer s H E hr => ?_)⟩
  have hu := hu_of hr
  have hu64 := hr.units
  have tk : Takes (cxOf (L2.CX P w) P w K mg base N_Sheet_homes "Sheet.homes" (defScope s_Sheet_homes) (He.ma K (He.ga K "Sheet") "homes") cdv A outer s H E) (fun cls d _ H => E cls d H) := takes_of rfl rfl rfl rfl
  have hx : PassesS (L2.CX P w) (cxOf (L2.CX P w) P w K mg base N_Sheet_homes "Sheet.homes" (defScope s_Sheet_homes) (He.ma K (He.ga K "Sheet") "homes") cdv A outer s H E) (fun cls d _ H => E cls d H) := fun σ => passAt tk σ
  exact (zs_one (z_ret (pd_fz (pl_sortSet rfl rfl T.n_sorted rfl T.n_set (pd_fz (pl_comp (own := [("give", 1)]) (ct := .one 1) rfl sc_Sheet_homes.nd (pid_sq (pd_fld (cid := 4) (j := 0) (pd_var 0) rfl (T.cl_Sheet) T.na_Sheet_gives)) (blkOk_by (own := [("give", 1)]) (N := N_Sheet_homes) (sc := defScope s_Sheet_homes) (by decide +kernel)) rfl (fun _ _ _ _ _ => pg_name (i := 1) sc_Sheet_homes.nd rfl (Or.inl rfl)) (fun _ _ _ _ _ => ptsd_nil) (fun _ _ _ _ _ => (pd_subs hu (pd_var 1) pd_int (fun _ _ => rfl))))) (by decide +kernel) (by decide +kernel)))))
theorem ok_Sheet_look_at (P : Program) (w : World) (base : Heap) (T : Tx K mg) : ∃ fd, FunD K "look_at" "Sheet.look_at" (defArgs s_Sheet_look_at) (defBody s_Sheet_look_at) (defScope s_Sheet_look_at) [] [] (He.ma K (He.ga K "Sheet") "look_at") fd ∧ FnOk P w K mg base (L2.CX P w) 10 (He.ma K (He.ga K "Sheet") "look_at") fd ["self", "makers"] (spOf K (zx K) c_Sheet_look_at) := by
  obtain ⟨fd, F⟩ := T.f_Sheet_look_at
  obtain ⟨fd_Sheet_homes, F_Sheet_homes, O_Sheet_homes⟩ := ok_Sheet_homes P w base T
  obtain ⟨fd_Twice___init__, F_Twice___init__, O_Twice___init__⟩ := ok_Twice___init__ P w base T
  obtain ⟨fd_NoHome___init__, F_NoHome___init__, O_NoHome___init__⟩ := ok_NoHome___init__ P w base T
  obtain ⟨_, hb0⟩ := bind0 (ps := ["self"]) F_Sheet_homes 1 [] (shp []) (fun _ _ _ _ _ _ us ws h1 h2 => match us, ws, h1, h2 with | [_], [], _, _ => rfl)
  have ow := ow_ok P w base T
  refine ⟨fd, F, fn_okD F sc_Sheet_look_at m_Sheet_look_at rfl (fun cdv A outer s H E hr => ?_)⟩
  have hu := hu_of hr
  have hu64 := hr.units
  have tk : Takes (cxOf (L2.CX P w) P w K mg base N_Sheet_look_at "Sheet.look_at" (defScope s_Sheet_look_at) (He.ma K (He.ga K "Sheet") "look_at") cdv A outer s H E) (fun cls d _ H => E cls d H) := takes_of rfl rfl rfl rfl
  have hx : PassesS (L2.CX P w) (cxOf (L2.CX P w) P w K mg base N_Sheet_look_at "Sheet.look_at" (defScope s_Sheet_look_at) (He.ma K (He.ga K "Sheet") "look_at") cdv A outer s H E) (fun cls d _ H => E cls d H) := fun σ => passAt tk σ
  exact (zs_cons (z_set (i := 2) sc_Sheet_look_at.nd rfl (Or.inl rfl) (pd_of (pv_methU0 (cid := 4) (pd_var 0) rfl T.cl_Sheet T.mt_Sheet_homes (by decide) O_Sheet_homes (hr.mono (by decide)) hb0 (fun _ => .nil) hx  pkd_nil)))
  (zs_one (z_for (passes_of rfl) rfl (pid_enum rfl T.n_enumerate (pad_cons (pd_var 1) pad_nil)) (pgd_tup rfl (pgds_cons (pgd_name (i := 3) sc_Sheet_look_at.nd rfl (Or.inl rfl)) (pgds_cons (pgd_name (i := 4) sc_Sheet_look_at.nd rfl (Or.inl rfl)) pgds_nil)))
  (zs_cons (z_if (ptd_inX ow passL (hr.mono (by decide)) (pd_var 4) (pd_cutS (pd_var 1) pod_none (pod_some (pd_var 3))))
  (zs_one (z_raise eb_ValueError T.oex_Twice rfl (Or.inl rfl) rfl T.iC_Twice T.tI_Twice O_Twice___init__ (hr.mono (by decide)) (F_Twice___init__.bindsN (fun _ _ _ _ _ _ us hl => match us, hl with | [_, _], _ => rfl)) passL rfl T.g_Twice rfl tk (pad_cons (pd_var 4) pad_nil)))
  zs_nil)
  (zs_one (z_if (ptd_notInX ow passL (hr.mono (by decide)) (pd_var 4) (pd_var 2))
  (zs_one (z_raise eb_KeyError T.oex_NoHome rfl (Or.inl rfl) rfl T.iC_NoHome T.tI_NoHome O_NoHome___init__ (hr.mono (by decide)) (F_NoHome___init__.bindsN (fun _ _ _ _ _ _ us hl => match us, hl with | [_, _], _ => rfl)) passL rfl T.g_NoHome rfl tk (pad_cons (pd_var 4) pad_nil)))
  zs_nil))))))
theorem ok_Sheet___init__ (P : Program) (w : World) (base : Heap) (T : Tx K mg) : ∃ fd, FunD K "__init__" "Sheet.__init__" (defArgs s_Sheet___init__) (defBody s_Sheet___init__) (defScope s_Sheet___init__) [.non, .non] [] (He.ma K (He.ga K "Sheet") "__init__") fd ∧ FnOk P w K mg base (L2.CX P w) 11 (He.ma K (He.ga K "Sheet") "__init__") fd ["self", "gives", "pieces"] (spOf K (zx K) c_Sheet___init__) := by
  obtain ⟨fd, F⟩ := T.f_Sheet___init__
  obtain ⟨fd_Twice___init__, F_Twice___init__, O_Twice___init__⟩ := ok_Twice___init__ P w base T
  obtain ⟨fd_Sheet_look_at, F_Sheet_look_at, O_Sheet_look_at⟩ := ok_Sheet_look_at P w base T
  obtain ⟨_, hb0⟩ := bind0 (ps := ["self", "makers"]) F_Sheet_look_at 2 [] (shp [.u 0]) (fun _ _ _ _ _ _ us ws h1 h2 => match us, ws, h1, h2 with | [_, _], [], _, _ => rfl)
  refine ⟨fd, F, fn_okD F sc_Sheet___init__ m_Sheet___init__ rfl (fun cdv A outer s H E hr => ?_)⟩
  have hu := hu_of hr
  have hu64 := hr.units
  have tk : Takes (cxOf (L2.CX P w) P w K mg base N_Sheet___init__ "Sheet.__init__" (defScope s_Sheet___init__) (He.ma K (He.ga K "Sheet") "__init__") cdv A outer s H E) (fun cls d _ H => E cls d H) := takes_of rfl rfl rfl rfl
  have hx : PassesS (L2.CX P w) (cxOf (L2.CX P w) P w K mg base N_Sheet___init__ "Sheet.__init__" (defScope s_Sheet___init__) (He.ma K (He.ga K "Sheet") "__init__") cdv A outer s H E) (fun cls d _ H => E cls d H) := fun σ => passAt tk σ
  exact (zs_cons (z_fsto (i := 0) (cid := 4) (j := 0) rfl rfl T.cl_Sheet T.na_Sheet_gives (pv_E (pd_fz (pl_comp (own := [("give", 6)]) (ct := .one 6) rfl sc_Sheet___init__.nd (pid_orN (pid_sq (pd_orX (pd_var 1) (pd_one (pd_fz (pl_lst pad_nil)))))) (blkOk_by (own := [("give", 6)]) (N := N_Sheet___init__) (sc := defScope s_Sheet___init__) (by decide +kernel)) rfl (fun _ _ _ _ _ => pg_name (i := 6) sc_Sheet___init__.nd rfl (Or.inl rfl)) (fun _ _ _ _ _ => ptsd_nil) (fun _ _ _ _ _ => (pd_callTy call_tuple_of cd_tuple rfl T.n_tuple (by decide +kernel) (pad_cons (pd_var 6) pad_nil)))))))
  (zs_cons (z_fsto (i := 0) (cid := 4) (j := 1) rfl rfl T.cl_Sheet T.na_Sheet_told (pv_D pdc_new))
  (zs_one (z_for (passes_of rfl) rfl (pid_orN (pid_sq (pd_orX (pd_var 2) (pd_one (pd_fz (pl_lst pad_nil)))))) (pgd_tup rfl (pgds_cons (pgd_name (i := 3) sc_Sheet___init__.nd rfl (Or.inl rfl)) (pgds_cons (pgd_name (i := 4) sc_Sheet___init__.nd rfl (Or.inl rfl)) (pgds_cons (pgd_name (i := 5) sc_Sheet___init__.nd rfl (Or.inl rfl)) pgds_nil))))
  (zs_cons (z_if (ptd_fin (ng := false) (i := 0) (cid := 4) (j := 1) hu (pd_var 3) rfl T.cl_Sheet T.na_Sheet_told)
  (zs_one (z_raise eb_ValueError T.oex_Twice rfl (Or.inl rfl) rfl T.iC_Twice T.tI_Twice O_Twice___init__ (hr.mono (by decide)) (F_Twice___init__.bindsN (fun _ _ _ _ _ _ us hl => match us, hl with | [_, _], _ => rfl)) passL rfl T.g_Twice rfl tk (pad_cons (pd_var 3) pad_nil)))
  zs_nil)
  (zs_cons (z_exprW (pv_methU (cid := 4) (pd_var 0) rfl T.cl_Sheet T.mt_Sheet_look_at (by decide) O_Sheet_look_at (hr.mono (by decide)) hb0 (fun _ => .nil) hx (pad_cons (pd_var 5) pad_nil) pkd_nil))
  (zs_one (z_fput (i := 0) (cid := 4) (j := 1) (m := 3) hu rfl T.cl_Sheet T.na_Sheet_told (pd_tup (pad_cons (pd_var 4) (pad_cons (pd_callTy call_tuple_of cd_tuple rfl T.n_tuple (by decide +kernel) (pad_cons (pd_var 5) pad_nil)) pad_nil)))))))))))
theorem ok_Sheet_pieces (P : Program) (w : World) (base : Heap) (T : Tx K mg) : ∃ fd, FunD K "pieces" "Sheet.pieces" (defArgs s_Sheet_pieces) (defBody s_Sheet_pieces) (defScope s_Sheet_pieces) [] [] (He.ma K (He.ga K "Sheet") "pieces") fd ∧ FnOk P w K mg base (L2.CX P w) 1 (He.ma K (He.ga K "Sheet") "pieces") fd ["self"] (spOf K (zx K) c_Sheet_pieces) := by
  obtain ⟨fd, F⟩ := T.f_Sheet_pieces
  refine ⟨fd, F, fn_okD F sc_Sheet_pieces m_Sheet_pieces rfl (fun cdv A outer s H E hr => ?_)⟩
  have hu := hu_of hr
  have hu64 := hr.units
  have tk : Takes (cxOf (L2.CX P w) P w K mg base N_Sheet_pieces "Sheet.pieces" (defScope s_Sheet_pieces) (He.ma K (He.ga K "Sheet") "pieces") cdv A outer s H E) (fun cls d _ H => E cls d H) := takes_of rfl rfl rfl rfl
  have hx : PassesS (L2.CX P w) (cxOf (L2.CX P w) P w K mg base N_Sheet_pieces "Sheet.pieces" (defScope s_Sheet_pieces) (He.ma K (He.ga K "Sheet") "pieces") cdv A outer s H E) (fun cls d _ H => E cls d H) := fun σ => passAt tk σ
  exact (zs_one (z_ret (pd_fz (pl_callTy (call_listD rfl) cl_listD rfl T.n_list (by decide +kernel) (pad_cons (pd_fld (cid := 4) (j := 1) (pd_var 0) rfl (T.cl_Sheet) T.na_Sheet_told) pad_nil)))))
theorem ok_Sheet_given (P : Program) (w : World) (base : Heap) (T : Tx K mg) : ∃ fd, FunD K "given" "Sheet.given" (defArgs s_Sheet_given) (defBody s_Sheet_given) (defScope s_Sheet_given) [] [] (He.ma K (He.ga K "Sheet") "given") fd ∧ FnOk P w K mg base (L2.CX P w) 10 (He.ma K (He.ga K "Sheet") "given") fd ["self", "home"] (spOf K (zx K) c_Sheet_given) := by
  obtain ⟨fd, F⟩ := T.f_Sheet_given
  obtain ⟨fd_NoHome___init__, F_NoHome___init__, O_NoHome___init__⟩ := ok_NoHome___init__ P w base T
  have ow := ow_ok P w base T
  refine ⟨fd, F, fn_okD F sc_Sheet_given m_Sheet_given rfl (fun cdv A outer s H E hr => ?_)⟩
  have hu := hu_of hr
  have hu64 := hr.units
  have tk : Takes (cxOf (L2.CX P w) P w K mg base N_Sheet_given "Sheet.given" (defScope s_Sheet_given) (He.ma K (He.ga K "Sheet") "given") cdv A outer s H E) (fun cls d _ H => E cls d H) := takes_of rfl rfl rfl rfl
  have hx : PassesS (L2.CX P w) (cxOf (L2.CX P w) P w K mg base N_Sheet_given "Sheet.given" (defScope s_Sheet_given) (He.ma K (He.ga K "Sheet") "given") cdv A outer s H E) (fun cls d _ H => E cls d H) := fun σ => passAt tk σ
  exact (zs_cons (z_setLc (i := 2) (own := [("give", 3)]) (ct := .one 3) rfl sc_Sheet_given.nd rfl rfl (sw_true rfl rfl rfl (by decide +kernel)) (pid_sq (pd_fld (cid := 4) (j := 0) (pd_var 0) rfl (T.cl_Sheet) T.na_Sheet_gives)) (blkOk_by (own := [("give", 3)]) (N := N_Sheet_given) (sc := defScope s_Sheet_given) (by decide +kernel)) rfl (fun _ _ _ _ _ => pg_name (i := 3) sc_Sheet_given.nd rfl (Or.inl rfl)) (fun _ _ _ _ _ => (ptsd_one (ptd_eqX ow passL (hr.mono (by decide)) (pd_subs hu (pd_var 3) pd_int (fun _ _ => rfl)) (pd_var 1)))) (fun _ _ _ _ _ => (pd_var 3)))
  (zs_cons (z_if (ptd_eqX ow passL (hr.mono (by decide)) (pd_callB call_len cd_len rfl T.n_len (by decide +kernel) (pad_cons (pd_var 2) pad_nil)) pd_int)
  (zs_one (z_raise eb_KeyError T.oex_NoHome rfl (Or.inl rfl) rfl T.iC_NoHome T.tI_NoHome O_NoHome___init__ (hr.mono (by decide)) (F_NoHome___init__.bindsN (fun _ _ _ _ _ _ us hl => match us, hl with | [_, _], _ => rfl)) passL rfl T.g_NoHome rfl tk (pad_cons (pd_var 1) pad_nil)))
  zs_nil)
  (zs_one (z_ret (pd_var 2)))))
theorem ok_Sheet_got (P : Program) (w : World) (base : Heap) (T : Tx K mg) : ∃ fd, FunD K "got" "Sheet.got" (defArgs s_Sheet_got) (defBody s_Sheet_got) (defScope s_Sheet_got) [] [] (He.ma K (He.ga K "Sheet") "got") fd ∧ FnOk P w K mg base (L2.CX P w) 11 (He.ma K (He.ga K "Sheet") "got") fd ["self", "home"] (spOf K (zx K) c_Sheet_got) := by
  obtain ⟨fd, F⟩ := T.f_Sheet_got
  obtain ⟨fd_Span___init__, F_Span___init__, O_Span___init__⟩ := ok_Span___init__ P w base T
  obtain ⟨fd_Sheet_given, F_Sheet_given, O_Sheet_given⟩ := ok_Sheet_given P w base T
  obtain ⟨fd_Span_plus, F_Span_plus, O_Span_plus⟩ := ok_Span_plus P w base T
  obtain ⟨_, hb0⟩ := bindD (ps := ["self", "least", "most"]) F_Span___init__ 2 [] (shp [.u 0, .d 0]) (List.cons_ne_nil _ _) (fun _ _ _ _ _ _ _ us its ws h1 h2 h3 => match us, its, ws, h1, h2, h3 with | [_, _], [_], [], _, _, _ => ⟨_, rfl, rfl⟩)
  obtain ⟨_, hb1⟩ := bind0 (ps := ["self", "home"]) F_Sheet_given 2 [] (shp [.u 0]) (fun _ _ _ _ _ _ us ws h1 h2 => match us, ws, h1, h2 with | [_, _], [], _, _ => rfl)
  obtain ⟨_, hb2⟩ := bind0 (ps := ["self", "other"]) F_Span_plus 2 [] (shp [.u 0]) (fun _ _ _ _ _ _ us ws h1 h2 => match us, ws, h1, h2 with | [_, _], [], _, _ => rfl)
  refine ⟨fd, F, fn_okD F sc_Sheet_got m_Sheet_got rfl (fun cdv A outer s H E hr => ?_)⟩
  have hu := hu_of hr
  have hu64 := hr.units
  have tk : Takes (cxOf (L2.CX P w) P w K mg base N_Sheet_got "Sheet.got" (defScope s_Sheet_got) (He.ma K (He.ga K "Sheet") "got") cdv A outer s H E) (fun cls d _ H => E cls d H) := takes_of rfl rfl rfl rfl
  have hx : PassesS (L2.CX P w) (cxOf (L2.CX P w) P w K mg base N_Sheet_got "Sheet.got" (defScope s_Sheet_got) (He.ma K (He.ga K "Sheet") "got") cdv A outer s H E) (fun cls d _ H => E cls d H) := fun σ => passAt tk σ
  exact (zs_cons (z_set (i := 2) sc_Sheet_got.nd rfl (Or.inl rfl) (pd_lk (pv_makeU (cid := 0) rfl T.mk_Span rfl O_Span___init__ (hr.mono (by decide)) rfl T.g_Span hb0 (fun _ => (.cons .non .nil)) hx (pad_cons pd_int pad_nil) pkd_nil)))
  (zs_cons (z_for (passes_of rfl) rfl (pid_sq (pd_of (pv_methU (cid := 4) (pd_var 0) rfl T.cl_Sheet T.mt_Sheet_given (by decide) O_Sheet_given (hr.mono (by decide)) hb1 (fun _ => .nil) hx (pad_cons (pd_var 1) pad_nil) pkd_nil))) (pgd_name (i := 3) sc_Sheet_got.nd rfl (Or.inl rfl))
  (zs_one (z_set (i := 2) sc_Sheet_got.nd rfl (Or.inl rfl) (pd_of (pv_methU (cid := 0) (pd_var 2) rfl T.cl_Span T.mt_Span_plus (by decide) O_Span_plus (hr.mono (by decide)) hb2 (fun _ => .nil) hx (pad_cons (pd_subs hu (pd_var 3) pd_int (fun _ _ => rfl)) pad_nil) pkd_nil)))))
  (zs_one (z_ret (pd_var 2)))))
theorem ok_Sheet_waste (P : Program) (w : World) (base : Heap) (T : Tx K mg) : ∃ fd, FunD K "waste" "Sheet.waste" (defArgs s_Sheet_waste) (defBody s_Sheet_waste) (defScope s_Sheet_waste) [] [] (He.ma K (He.ga K "Sheet") "waste") fd ∧ FnOk P w K mg base (L2.CX P w) 11 (He.ma K (He.ga K "Sheet") "waste") fd ["self", "home"] (spOf K (zx K) c_Sheet_waste) := by
  obtain ⟨fd, F⟩ := T.f_Sheet_waste
  obtain ⟨fd_Sheet_given, F_Sheet_given, O_Sheet_given⟩ := ok_Sheet_given P w base T
  obtain ⟨_, hb0⟩ := bind0 (ps := ["self", "home"]) F_Sheet_given 2 [] (shp [.u 0]) (fun _ _ _ _ _ _ us ws h1 h2 => match us, ws, h1, h2 with | [_, _], [], _, _ => rfl)
  refine ⟨fd, F, fn_okD F sc_Sheet_waste m_Sheet_waste rfl (fun cdv A outer s H E hr => ?_)⟩
  have hu := hu_of hr
  have hu64 := hr.units
  have tk : Takes (cxOf (L2.CX P w) P w K mg base N_Sheet_waste "Sheet.waste" (defScope s_Sheet_waste) (He.ma K (He.ga K "Sheet") "waste") cdv A outer s H E) (fun cls d _ H => E cls d H) := takes_of rfl rfl rfl rfl
  have hx : PassesS (L2.CX P w) (cxOf (L2.CX P w) P w K mg base N_Sheet_waste "Sheet.waste" (defScope s_Sheet_waste) (He.ma K (He.ga K "Sheet") "waste") cdv A outer s H E) (fun cls d _ H => E cls d H) := fun σ => passAt tk σ
  exact (zs_one (z_ret (pd_callB (cr_sum rfl) cd_sum rfl T.n_sum (by decide +kernel) (pad_cons (pd_fz (pl_comp (own := [("give", 2)]) (ct := .one 2) rfl sc_Sheet_waste.nd (pid_sq (pd_of (pv_methU (cid := 4) (pd_var 0) rfl T.cl_Sheet T.mt_Sheet_given (by decide) O_Sheet_given (hr.mono (by decide)) hb0 (fun _ => .nil) hx (pad_cons (pd_var 1) pad_nil) pkd_nil))) (blkOk_by (own := [("give", 2)]) (N := N_Sheet_waste) (sc := defScope s_Sheet_waste) (by decide +kernel)) rfl (fun _ _ _ _ _ => pg_name (i := 2) sc_Sheet_waste.nd rfl (Or.inl rfl)) (fun _ _ _ _ _ => ptsd_nil) (fun _ _ _ _ _ => (pd_subs hu (pd_var 2) pd_int (fun _ _ => rfl))))) pad_nil))))
theorem ok_Sheet_row_of (P : Program) (w : World) (base : Heap) (T : Tx K mg) : ∃ fd, FunD K "row_of" "Sheet.row_of" (defArgs s_Sheet_row_of) (defBody s_Sheet_row_of) (defScope s_Sheet_row_of) [] [] (He.ma K (He.ga K "Sheet") "row_of") fd ∧ FnOk P w K mg base (L2.CX P w) 10 (He.ma K (He.ga K "Sheet") "row_of") fd ["self", "piece"] (spOf K (zx K) c_Sheet_row_of) := by
  obtain ⟨fd, F⟩ := T.f_Sheet_row_of
  obtain ⟨fd_NoPiece___init__, F_NoPiece___init__, O_NoPiece___init__⟩ := ok_NoPiece___init__ P w base T
  have ow := ow_ok P w base T
  refine ⟨fd, F, fn_okD F sc_Sheet_row_of m_Sheet_row_of rfl (fun cdv A outer s H E hr => ?_)⟩
  have hu := hu_of hr
  have hu64 := hr.units
  have tk : Takes (cxOf (L2.CX P w) P w K mg base N_Sheet_row_of "Sheet.row_of" (defScope s_Sheet_row_of) (He.ma K (He.ga K "Sheet") "row_of") cdv A outer s H E) (fun cls d _ H => E cls d H) := takes_of rfl rfl rfl rfl
  have hx : PassesS (L2.CX P w) (cxOf (L2.CX P w) P w K mg base N_Sheet_row_of "Sheet.row_of" (defScope s_Sheet_row_of) (He.ma K (He.ga K "Sheet") "row_of") cdv A outer s H E) (fun cls d _ H => E cls d H) := fun σ => passAt tk σ
  exact (zs_cons (z_if (ptd_notInX ow passL (hr.mono (by decide)) (pd_var 1) (pd_fld (cid := 4) (j := 1) (pd_var 0) rfl (T.cl_Sheet) T.na_Sheet_told))
  (zs_one (z_raise eb_KeyError T.oex_NoPiece rfl (Or.inl rfl) rfl T.iC_NoPiece T.tI_NoPiece O_NoPiece___init__ (hr.mono (by decide)) (F_NoPiece___init__.bindsN (fun _ _ _ _ _ _ us hl => match us, hl with | [_, _], _ => rfl)) passL rfl T.g_NoPiece rfl tk (pad_cons (pd_var 1) pad_nil)))
  zs_nil)
  (zs_one (z_ret (pd_subs hu (pd_fld (cid := 4) (j := 1) (pd_var 0) rfl (T.cl_Sheet) T.na_Sheet_told) (pd_var 1) (fun _ _ => rfl)))))
theorem ok_Sheet_yarn (P : Program) (w : World) (base : Heap) (T : Tx K mg) : ∃ fd, FunD K "yarn" "Sheet.yarn" (defArgs s_Sheet_yarn) (defBody s_Sheet_yarn) (defScope s_Sheet_yarn) [] [] (He.ma K (He.ga K "Sheet") "yarn") fd ∧ FnOk P w K mg base (L2.CX P w) 11 (He.ma K (He.ga K "Sheet") "yarn") fd ["self", "piece"] (spOf K (zx K) c_Sheet_yarn) := by
  obtain ⟨fd, F⟩ := T.f_Sheet_yarn
  obtain ⟨fd_Sheet_row_of, F_Sheet_row_of, O_Sheet_row_of⟩ := ok_Sheet_row_of P w base T
  obtain ⟨_, hb0⟩ := bind0 (ps := ["self", "piece"]) F_Sheet_row_of 2 [] (shp [.u 0]) (fun _ _ _ _ _ _ us ws h1 h2 => match us, ws, h1, h2 with | [_, _], [], _, _ => rfl)
  refine ⟨fd, F, fn_okD F sc_Sheet_yarn m_Sheet_yarn rfl (fun cdv A outer s H E hr => ?_)⟩
  have hu := hu_of hr
  have hu64 := hr.units
  have tk : Takes (cxOf (L2.CX P w) P w K mg base N_Sheet_yarn "Sheet.yarn" (defScope s_Sheet_yarn) (He.ma K (He.ga K "Sheet") "yarn") cdv A outer s H E) (fun cls d _ H => E cls d H) := takes_of rfl rfl rfl rfl
  have hx : PassesS (L2.CX P w) (cxOf (L2.CX P w) P w K mg base N_Sheet_yarn "Sheet.yarn" (defScope s_Sheet_yarn) (He.ma K (He.ga K "Sheet") "yarn") cdv A outer s H E) (fun cls d _ H => E cls d H) := fun σ => passAt tk σ
  exact (zs_one (z_ret (pd_subs hu (pd_of (pv_methU (cid := 4) (pd_var 0) rfl T.cl_Sheet T.mt_Sheet_row_of (by decide) O_Sheet_row_of (hr.mono (by decide)) hb0 (fun _ => .nil) hx (pad_cons (pd_var 1) pad_nil) pkd_nil)) pd_int (fun _ _ => rfl))))
theorem ok_Sheet_makers (P : Program) (w : World) (base : Heap) (T : Tx K mg) : ∃ fd, FunD K "makers" "Sheet.makers" (defArgs s_Sheet_makers) (defBody s_Sheet_makers) (defScope s_Sheet_makers) [] [] (He.ma K (He.ga K "Sheet") "makers") fd ∧ FnOk P w K mg base (L2.CX P w) 11 (He.ma K (He.ga K "Sheet") "makers") fd ["self", "piece"] (spOf K (zx K) c_Sheet_makers) := by
  obtain ⟨fd, F⟩ := T.f_Sheet_makers
  obtain ⟨fd_Sheet_row_of, F_Sheet_row_of, O_Sheet_row_of⟩ := ok_Sheet_row_of P w base T
  obtain ⟨_, hb0⟩ := bind0 (ps := ["self", "piece"]) F_Sheet_row_of 2 [] (shp [.u 0]) (fun _ _ _ _ _ _ us ws h1 h2 => match us, ws, h1, h2 with | [_, _], [], _, _ => rfl)
  refine ⟨fd, F, fn_okD F sc_Sheet_makers m_Sheet_makers rfl (fun cdv A outer s H E hr => ?_)⟩
  have hu := hu_of hr
  have hu64 := hr.units
  have tk : Takes (cxOf (L2.CX P w) P w K mg base N_Sheet_makers "Sheet.makers" (defScope s_Sheet_makers) (He.ma K (He.ga K "Sheet") "makers") cdv A outer s H E) (fun cls d _ H => E cls d H) := takes_of rfl rfl rfl rfl
  have hx : PassesS (L2.CX P w) (cxOf (L2.CX P w) P w K mg base N_Sheet_makers "Sheet.makers" (defScope s_Sheet_makers) (He.ma K (He.ga K "Sheet") "makers") cdv A outer s H E) (fun cls d _ H => E cls d H) := fun σ => passAt tk σ
  exact (zs_one (z_ret (pd_fz (pl_callTy call_list_of cl_list rfl T.n_list (by decide +kernel) (pad_cons (pd_subs hu (pd_of (pv_methU (cid := 4) (pd_var 0) rfl T.cl_Sheet T.mt_Sheet_row_of (by decide) O_Sheet_row_of (hr.mono (by decide)) hb0 (fun _ => .nil) hx (pad_cons (pd_var 1) pad_nil) pkd_nil)) pd_int (fun _ _ => rfl)) pad_nil)))))
theorem ok_Sheet_made_by (P : Program) (w : World) (base : Heap) (T : Tx K mg) : ∃ fd, FunD K "made_by" "Sheet.made_by" (defArgs s_Sheet_made_by) (defBody s_Sheet_made_by) (defScope s_Sheet_made_by) [] [] (He.ma K (He.ga K "Sheet") "made_by") fd ∧ FnOk P w K mg base (L2.CX P w) 11 (He.ma K (He.ga K "Sheet") "made_by") fd ["self", "home"] (spOf K (zx K) c_Sheet_made_by) := by
  obtain ⟨fd, F⟩ := T.f_Sheet_made_by
  obtain ⟨fd_Sheet_given, F_Sheet_given, O_Sheet_given⟩ := ok_Sheet_given P w base T
  obtain ⟨_, hb0⟩ := bind0 (ps := ["self", "home"]) F_Sheet_given 2 [] (shp [.u 0]) (fun _ _ _ _ _ _ us ws h1 h2 => match us, ws, h1, h2 with | [_, _], [], _, _ => rfl)
  have ow := ow_ok P w base T
  refine ⟨fd, F, fn_okD F sc_Sheet_made_by m_Sheet_made_by rfl (fun cdv A outer s H E hr => ?_)⟩
  have hu := hu_of hr
  have hu64 := hr.units
  have tk : Takes (cxOf (L2.CX P w) P w K mg base N_Sheet_made_by "Sheet.made_by" (defScope s_Sheet_made_by) (He.ma K (He.ga K "Sheet") "made_by") cdv A outer s H E) (fun cls d _ H => E cls d H) := takes_of rfl rfl rfl rfl
  have hx : PassesS (L2.CX P w) (cxOf (L2.CX P w) P w K mg base N_Sheet_made_by "Sheet.made_by" (defScope s_Sheet_made_by) (He.ma K (He.ga K "Sheet") "made_by") cdv A outer s H E) (fun cls d _ H => E cls d H) := fun σ => passAt tk σ
  exact (zs_cons (z_exprW (pv_methU (cid := 4) (pd_var 0) rfl T.cl_Sheet T.mt_Sheet_given (by decide) O_Sheet_given (hr.mono (by decide)) hb0 (fun _ => .nil) hx (pad_cons (pd_var 1) pad_nil) pkd_nil))
  (zs_one (z_ret (pd_fz (pl_comp (own := [("piece", 2)]) (ct := .one 2) rfl sc_Sheet_made_by.nd (pid_key (pd_fld (cid := 4) (j := 1) (pd_var 0) rfl (T.cl_Sheet) T.na_Sheet_told)) (blkOk_by (own := [("piece", 2)]) (N := N_Sheet_made_by) (sc := defScope s_Sheet_made_by) (by decide +kernel)) rfl (fun _ _ _ _ _ => pg_name (i := 2) sc_Sheet_made_by.nd rfl (Or.inl rfl)) (fun _ _ _ _ _ => (ptsd_one (ptd_inX ow passL (hr.mono (by decide)) (pd_var 1) (pd_subs hu (pd_subs hu (pd_fld (cid := 4) (j := 1) (pd_var 0) rfl (T.cl_Sheet) T.na_Sheet_told) (pd_var 2) (fun _ _ => rfl)) pd_int (fun _ _ => rfl))))) (fun _ _ _ _ _ => (pd_var 2)))))))
theorem ok__law_pen (P : Program) (w : World) (base : Heap) (T : Tx K mg) : ∃ fd, FunD K "_law_pen" "_law_pen" (defArgs s__law_pen) (defBody s__law_pen) (defScope s__law_pen) [] [] (He.ga K "_law_pen") fd ∧ FnOk P w K mg base (L2.CX P w) 1 (He.ga K "_law_pen") fd ["script"] (spOf K (zx K) c__law_pen) := by
  obtain ⟨fd, F⟩ := T.f__law_pen
  refine ⟨fd, F, fn_okD F sc__law_pen m__law_pen rfl (fun cdv A outer s H E hr => ?_)⟩
  have hu := hu_of hr
  have hu64 := hr.units
  have tk : Takes (cxOf (L2.CX P w) P w K mg base N__law_pen "_law_pen" (defScope s__law_pen) (He.ga K "_law_pen") cdv A outer s H E) (fun cls d _ H => E cls d H) := takes_of rfl rfl rfl rfl
  have hx : PassesS (L2.CX P w) (cxOf (L2.CX P w) P w K mg base N__law_pen "_law_pen" (defScope s__law_pen) (He.ga K "_law_pen") cdv A outer s H E) (fun cls d _ H => E cls d H) := fun σ => passAt tk σ
  exact (zs_one (z_retD (pdc_disp (pps_cons pd_str (pd_fz (pl_comp (own := [("cell", 1)]) (ct := .one 1) rfl sc__law_pen.nd (pid_sq (pd_fz (pl_cut (pd_var 0) pod_none (pod_some pd_int)))) (blkOk_by (own := [("cell", 1)]) (N := N__law_pen) (sc := defScope s__law_pen) (by decide +kernel)) rfl (fun _ _ _ _ _ => pg_name (i := 1) sc__law_pen.nd rfl (Or.inl rfl)) (fun _ _ _ _ _ => ptsd_nil) (fun _ _ _ _ _ => (pd_var 1)))) (pps_cons pd_str pd_int (pps_cons pd_str pd_int pps_nil))))))
theorem ok__law_draw (P : Program) (w : World) (base : Heap) (T : Tx K mg) : ∃ fd, FunD K "_law_draw" "_law_draw" (defArgs s__law_draw) (defBody s__law_draw) (defScope s__law_draw) [] [] (He.ga K "_law_draw") fd ∧ FnOk P w K mg base (L2.CX P w) 10 (He.ga K "_law_draw") fd ["pen", "many"] (spOf K (zx K) c__law_draw) := by
  obtain ⟨fd, F⟩ := T.f__law_draw
  have ow := ow_ok P w base T
  refine ⟨fd, F, fn_okD F sc__law_draw m__law_draw rfl (fun cdv A outer s H E hr => ?_)⟩
  have hu := hu_of hr
  have hu64 := hr.units
  have tk : Takes (cxOf (L2.CX P w) P w K mg base N__law_draw "_law_draw" (defScope s__law_draw) (He.ga K "_law_draw") cdv A outer s H E) (fun cls d _ H => E cls d H) := takes_of rfl rfl rfl rfl
  have hx : PassesS (L2.CX P w) (cxOf (L2.CX P w) P w K mg base N__law_draw "_law_draw" (defScope s__law_draw) (He.ga K "_law_draw") cdv A outer s H E) (fun cls d _ H => E cls d H) := fun σ => passAt tk σ
  exact (zs_cons (z_if (ptd_gt (pd_subs hu (pd_var 0) pd_str (fun _ _ => rfl)) pd_int)
  (zs_cons (z_set (i := 2) sc__law_draw.nd rfl (Or.inl rfl) (pd_mod (pd_subs hu (pd_var 0) pd_str (fun _ _ => rfl)) (pd_var 1)))
  (zs_cons (z_dput hu (pd_var 0) pd_str (pd_div (pd_subs hu (pd_var 0) pd_str (fun _ _ => rfl)) (pd_var 1)))
  (zs_one (z_ret (pd_var 2)))))
  zs_nil)
  (zs_cons (z_set (i := 3) sc__law_draw.nd rfl (Or.inl rfl) (pd_subs hu (pd_var 0) pd_str (fun _ _ => rfl)))
  (zs_cons (z_dput hu (pd_var 0) pd_str (pd_plus (pd_var 3) pd_int))
  (zs_cons (z_set (i := 4) sc__law_draw.nd rfl (Or.inl rfl) (pd_plus (pd_times (pd_var 3) (pd_var 3)) pd_int))
  (zs_cons (z_if (ptd_neX ow passL (hr.mono (by decide)) (pd_subs hu (pd_var 0) pd_str (fun _ _ => rfl)) (pd_fz (pl_lst pad_nil)))
  (zs_one (z_set (i := 4) sc__law_draw.nd rfl (Or.inl rfl) (pd_subs hu (pd_subs hu (pd_var 0) pd_str (fun _ _ => rfl)) (pd_mod (pd_var 3) (pd_callB call_len cd_len rfl T.n_len (by decide +kernel) (pad_cons (pd_subs hu (pd_var 0) pd_str (fun _ _ => rfl)) pad_nil))) (fun _ _ => rfl))))
  zs_nil)
  (zs_cons (z_if (PWD.pt (pwd_and (ptd_lt (pd_var 3) (pd_callB call_len cd_len rfl T.n_len (by decide +kernel) (pad_cons (pd_subs hu (pd_var 0) pd_str (fun _ _ => rfl)) pad_nil))) (pwd_and1 (ptd_ge (pd_callB call_abs cd_abs rfl T.n_abs (by decide +kernel) (pad_cons (pd_var 4) pad_nil)) (pd_pow pd_int pd_int)))))
  (zs_cons (z_dput hu (pd_var 0) pd_str (pd_div (pd_callB call_abs cd_abs rfl T.n_abs (by decide +kernel) (pad_cons (pd_var 4) pad_nil)) (pd_var 1)))
  (zs_one (z_ret (pd_mod (pd_callB call_abs cd_abs rfl T.n_abs (by decide +kernel) (pad_cons (pd_var 4) pad_nil)) (pd_var 1)))))
  zs_nil)
  (zs_cons (z_set (i := 5) sc__law_draw.nd rfl (Or.inl rfl) (pd_mod (pd_times (pd_plus (pd_plus (pd_mod (pd_var 4) pd_int) (pd_times pd_int (pd_var 3))) pd_int) pd_int) pd_int))
  (zs_cons (z_for (passes_of rfl) rfl (pid_range1 rfl T.n_range (pad_cons pd_int pad_nil)) (pgd_name (i := 6) sc__law_draw.nd rfl (Or.inl rfl))
  (zs_cons (z_set (i := 5) sc__law_draw.nd rfl (Or.inl rfl) (pd_plus (pd_plus (pd_plus (pd_times (pd_var 5) (pd_var 5)) (pd_times pd_int (pd_var 5))) (pd_var 3)) (pd_var 6)))
  (zs_one (z_set (i := 5) sc__law_draw.nd rfl (Or.inl rfl) (pd_mod (pd_var 5) pd_int)))))
  (zs_one (z_ret (pd_mod (pd_div (pd_var 5) pd_int) (pd_var 1))))))))))))
theorem ok__law_names (P : Program) (w : World) (base : Heap) (T : Tx K mg) : ∃ fd, FunD K "_law_names" "_law_names" (defArgs s__law_names) (defBody s__law_names) (defScope s__law_names) [] [] (He.ga K "_law_names") fd ∧ FnOk P w K mg base (L2.CX P w) 11 (He.ga K "_law_names") fd ["pen", "many"] (spOf K (zx K) c__law_names) := by
  obtain ⟨fd, F⟩ := T.f__law_names
  obtain ⟨fd__law_draw, F__law_draw, O__law_draw⟩ := ok__law_draw P w base T
  obtain ⟨_, hb0⟩ := bind0 (ps := ["pen", "many"]) F__law_draw 2 [] ([.u 0, .u 1] : List Src) (fun _ _ _ _ _ _ us ws h1 h2 => match us, ws, h1, h2 with | [_, _], [], _, _ => rfl)
  have ow := ow_ok P w base T
  refine ⟨fd, F, fn_okD F sc__law_names m__law_names rfl (fun cdv A outer s H E hr => ?_)⟩
  have hu := hu_of hr
  have hu64 := hr.units
  have tk : Takes (cxOf (L2.CX P w) P w K mg base N__law_names "_law_names" (defScope s__law_names) (He.ga K "_law_names") cdv A outer s H E) (fun cls d _ H => E cls d H) := takes_of rfl rfl rfl rfl
  have hx : PassesS (L2.CX P w) (cxOf (L2.CX P w) P w K mg base N__law_names "_law_names" (defScope s__law_names) (He.ga K "_law_names") cdv A outer s H E) (fun cls d _ H => E cls d H) := fun σ => passAt tk σ
  exact (zs_cons (z_set (i := 2) sc__law_names.nd rfl (Or.inr rfl) pd_str)
  (zs_cons (z_set (i := 4) sc__law_names.nd rfl (Or.inl rfl) (pd_mt (Or.inr rfl) PySem.F.plainAttrs_str PySem.F.slot_str_join PySem.F.type_str_join mt_join md_join pd_str (pad_cons (pd_fz (pl_comp (own := [("k", 3)]) (ct := .one 3) rfl sc__law_names.nd (pid_range1 rfl T.n_range (pad_cons (pd_plus pd_int (pd_of (pv_callU O__law_draw (hr.mono (by decide)) rfl T.g__law_draw F__law_draw.kp hb0 (fun _ => .nil) hx (pad_cons (pd_var 0) (pad_cons pd_int pad_nil)) pkd_nil))) pad_nil)) (blkOk_by (own := [("k", 3)]) (N := N__law_names) (sc := defScope s__law_names) (by decide +kernel)) rfl (fun _ _ _ _ _ => pg_name (i := 3) sc__law_names.nd rfl (Or.inl rfl)) (fun _ _ _ _ _ => ptsd_nil) (fun _ _ _ _ _ => (pd_subs hu (pd_var 2) (pd_of (pv_callU O__law_draw (hr.mono (by decide)) rfl T.g__law_draw F__law_draw.kp hb0 (fun _ => .nil) passLS (pad_cons (pd_var 0) (pad_cons pd_int pad_nil)) pkd_nil)) (fun _ _ => rfl))))) pad_nil)))
  (zs_cons (z_set (i := 5) sc__law_names.nd rfl (Or.inl rfl) (pd_of (pv_callU O__law_draw (hr.mono (by decide)) rfl T.g__law_draw F__law_draw.kp hb0 (fun _ => .nil) hx (pad_cons (pd_var 0) (pad_cons (pd_callB call_len cd_len rfl T.n_len (by decide +kernel) (pad_cons (pd_var 4) pad_nil)) pad_nil)) pkd_nil)))
  (zs_cons (z_par rfl sc__law_names.nd rfl rfl (by decide) rfl rfl (pad_cons (pd_of (pv_callU O__law_draw (hr.mono (by decide)) rfl T.g__law_draw F__law_draw.kp hb0 (fun _ => .nil) hx (pad_cons (pd_var 0) (pad_cons pd_int pad_nil)) pkd_nil)) (pad_cons (pd_subs hu (pd_fz (pl_lst (pad_cons pd_int (pad_cons pd_int (pad_cons pd_int (pad_cons pd_int (pad_cons pd_int (pad_cons pd_int pad_nil)))))))) (pd_of (pv_callU O__law_draw (hr.mono (by decide)) rfl T.g__law_draw F__law_draw.kp hb0 (fun _ => .nil) hx (pad_cons (pd_var 0) (pad_cons pd_int pad_nil)) pkd_nil)) (fun _ _ => rfl)) pad_nil)) (by rfl))
  (zs_cons (z_parO rfl sc__law_names.nd rfl rfl (by decide) rfl rfl (pd_mt (Or.inr rfl) PySem.F.plainAttrs_str PySem.F.slot_str_index PySem.F.type_str_index mt_sindex md_sindex (pd_var 2) (pad_cons (pd_subs hu (pd_var 4) (pd_var 5) (fun _ _ => rfl)) pad_nil)) (pl_lst pad_nil) (by rfl))
  (zs_cons (z_for (passes_of rfl) rfl (pid_range1 rfl T.n_range (pad_cons (pd_var 1) pad_nil)) (pgd_name (i := 3) sc__law_names.nd rfl (Or.inl rfl))
  (zs_cons (z_set (i := 10) sc__law_names.nd rfl (Or.inl rfl) (pd_cutS (pd_cutS (pd_var 4) (pod_some (pd_plus (pd_var 5) pd_int)) pod_none) pod_none (pod_some (pd_subs hu (pd_fz (pl_lst (pad_cons pd_int (pad_cons (pd_mod (pd_var 3) pd_int) pad_nil)))) (pd_mod (pd_var 8) pd_int) (fun _ _ => rfl)))))
  (zs_one (z_expr (pd_append (pd_var 9) (pad_cons (pd_plus (pd_plus (pd_cutS (pd_var 4) pod_none (pod_some (pd_var 5))) (pd_subs hu (pd_var 2) (pd_mod (pd_plus (pd_var 6) (pd_times (pd_var 7) (pd_var 3))) pd_int) (fun _ _ => rfl))) (pd_var 10)) pad_nil))))))
  (zs_cons (z_if (PWD.pt (pwd_and (ptd_gt (pd_var 5) pd_int) (pwd_and (ptd_gt (pd_var 1) pd_int) (pwd_and1 (ptd_eqX ow passL (hr.mono (by decide)) (pd_mod (pd_div (pd_var 8) pd_int) pd_int) pd_int)))))
  (zs_one (z_asgG (pd_cutS (pd_var 4) pod_none (pod_some (pd_var 5))) (pgd_sub hu (pd_var 9) (pd_mod (pd_div (pd_var 8) pd_int) (pd_var 1)) (fun _ => rfl))))
  zs_nil)
  (zs_one (z_retF (pd_var 9))))))))))
theorem ok__law_ends (P : Program) (w : World) (base : Heap) (T : Tx K mg) : ∃ fd, FunD K "_law_ends" "_law_ends" (defArgs s__law_ends) (defBody s__law_ends) (defScope s__law_ends) [] [] (He.ga K "_law_ends") fd ∧ FnOk P w K mg base (L2.CX P w) 11 (He.ga K "_law_ends") fd ["pen", "wide"] (spOf K (zx K) c__law_ends) := by
  obtain ⟨fd, F⟩ := T.f__law_ends
  obtain ⟨fd__law_draw, F__law_draw, O__law_draw⟩ := ok__law_draw P w base T
  obtain ⟨_, hb0⟩ := bind0 (ps := ["pen", "many"]) F__law_draw 2 [] ([.u 0, .u 1] : List Src) (fun _ _ _ _ _ _ us ws h1 h2 => match us, ws, h1, h2 with | [_, _], [], _, _ => rfl)
  refine ⟨fd, F, fn_okD F sc__law_ends m__law_ends rfl (fun cdv A outer s H E hr => ?_)⟩
  have hu := hu_of hr
  have hu64 := hr.units
  have tk : Takes (cxOf (L2.CX P w) P w K mg base N__law_ends "_law_ends" (defScope s__law_ends) (He.ga K "_law_ends") cdv A outer s H E) (fun cls d _ H => E cls d H) := takes_of rfl rfl rfl rfl
  have hx : PassesS (L2.CX P w) (cxOf (L2.CX P w) P w K mg base N__law_ends "_law_ends" (defScope s__law_ends) (He.ga K "_law_ends") cdv A outer s H E) (fun cls d _ H => E cls d H) := fun σ => passAt tk σ
  exact (zs_cons (z_set (i := 2) sc__law_ends.nd rfl (Or.inl rfl) (pd_of (pv_callU O__law_draw (hr.mono (by decide)) rfl T.g__law_draw F__law_draw.kp hb0 (fun _ => .nil) hx (pad_cons (pd_var 0) (pad_cons (pd_var 1) pad_nil)) pkd_nil)))
  (zs_one (z_ret (pd_tup (pad_cons (pd_var 2) (pad_cons (pd_plus (pd_var 2) (pd_subs hu (pd_fz (pl_lst (pad_cons pd_int (pad_cons pd_int (pad_cons (pd_of (pv_callU O__law_draw (hr.mono (by decide)) rfl T.g__law_draw F__law_draw.kp hb0 (fun _ => .nil) hx (pad_cons (pd_var 0) (pad_cons pd_int pad_nil)) pkd_nil)) (pad_cons (pd_of (pv_callU O__law_draw (hr.mono (by decide)) rfl T.g__law_draw F__law_draw.kp hb0 (fun _ => .nil) hx (pad_cons (pd_var 0) (pad_cons (pd_var 1) pad_nil)) pkd_nil)) pad_nil)))))) (pd_of (pv_callU O__law_draw (hr.mono (by decide)) rfl T.g__law_draw F__law_draw.kp hb0 (fun _ => .nil) hx (pad_cons (pd_var 0) (pad_cons pd_int pad_nil)) pkd_nil)) (fun _ _ => rfl))) pad_nil))))))
theorem ok__law_gives (P : Program) (w : World) (base : Heap) (T : Tx K mg) : ∃ fd, FunD K "_law_gives" "_law_gives" (defArgs s__law_gives) (defBody s__law_gives) (defScope s__law_gives) [] [] (He.ga K "_law_gives") fd ∧ FnOk P w K mg base (L2.CX P w) 12 (He.ga K "_law_gives") fd ["pen", "names", "wide"] (spOf K (zx K) c__law_gives) := by
  obtain ⟨fd, F⟩ := T.f__law_gives
  obtain ⟨fd__law_draw, F__law_draw, O__law_draw⟩ := ok__law_draw P w base T
  obtain ⟨fd__law_ends, F__law_ends, O__law_ends⟩ := ok__law_ends P w base T
  obtain ⟨_, hb0⟩ := bind0 (ps := ["pen", "many"]) F__law_draw 2 [] ([.u 0, .u 1] : List Src) (fun _ _ _ _ _ _ us ws h1 h2 => match us, ws, h1, h2 with | [_, _], [], _, _ => rfl)
  obtain ⟨_, hb1⟩ := bind0 (ps := ["pen", "wide"]) F__law_ends 2 [] ([.u 0, .u 1] : List Src) (fun _ _ _ _ _ _ us ws h1 h2 => match us, ws, h1, h2 with | [_, _], [], _, _ => rfl)
  refine ⟨fd, F, fn_okD F sc__law_gives m__law_gives rfl (fun cdv A outer s H E hr => ?_)⟩
  have hu := hu_of hr
  have hu64 := hr.units
  have tk : Takes (cxOf (L2.CX P w) P w K mg base N__law_gives "_law_gives" (defScope s__law_gives) (He.ga K "_law_gives") cdv A outer s H E) (fun cls d _ H => E cls d H) := takes_of rfl rfl rfl rfl
  have hx : PassesS (L2.CX P w) (cxOf (L2.CX P w) P w K mg base N__law_gives "_law_gives" (defScope s__law_gives) (He.ga K "_law_gives") cdv A outer s H E) (fun cls d _ H => E cls d H) := fun σ => passAt tk σ
  exact (zs_cons (z_setO (i := 3) sc__law_gives.nd rfl (Or.inl rfl) (pl_lst pad_nil))
  (zs_cons (z_forV (passes_of rfl) rfl (pd_var 1) (pgd_name (i := 4) sc__law_gives.nd rfl (Or.inl rfl))
  (zs_one (z_for (passes_of rfl) rfl (pid_range1 rfl T.n_range (pad_cons (pd_plus pd_int (pd_of (pv_callU O__law_draw (hr.mono (by decide)) rfl T.g__law_draw F__law_draw.kp hb0 (fun _ => .nil) hx (pad_cons (pd_var 0) (pad_cons pd_int pad_nil)) pkd_nil))) pad_nil)) (pgd_name (i := 5) sc__law_gives.nd rfl (Or.inl rfl))
  (zs_cons (z_set (i := 6) sc__law_gives.nd rfl (Or.inl rfl) (pd_tup (pad_cons (pd_var 4) (pad_cons (pd_of (pv_callU O__law_ends (hr.mono (by decide)) rfl T.g__law_ends F__law_ends.kp hb1 (fun _ => .nil) hx (pad_cons (pd_var 0) (pad_cons (pd_var 2) pad_nil)) pkd_nil)) (pad_cons (pd_subs hu (pd_fz (pl_lst (pad_cons pd_int (pad_cons (pd_of (pv_callU O__law_draw (hr.mono (by decide)) rfl T.g__law_draw F__law_draw.kp hb0 (fun _ => .nil) hx (pad_cons (pd_var 0) (pad_cons pd_int pad_nil)) pkd_nil)) (pad_cons (pd_of (pv_callU O__law_draw (hr.mono (by decide)) rfl T.g__law_draw F__law_draw.kp hb0 (fun _ => .nil) hx (pad_cons (pd_var 0) (pad_cons (pd_var 2) pad_nil)) pkd_nil)) pad_nil))))) (pd_of (pv_callU O__law_draw (hr.mono (by decide)) rfl T.g__law_draw F__law_draw.kp hb0 (fun _ => .nil) hx (pad_cons (pd_var 0) (pad_cons pd_int pad_nil)) pkd_nil)) (fun _ _ => rfl)) pad_nil)))))
  (zs_one (z_expr (pd_insert (pd_var 3) (pad_cons (pd_of (pv_callU O__law_draw (hr.mono (by decide)) rfl T.g__law_draw F__law_draw.kp hb0 (fun _ => .nil) hx (pad_cons (pd_var 0) (pad_cons (pd_plus (pd_callB call_len cd_len rfl T.n_len (by decide +kernel) (pad_cons (pd_var 3) pad_nil)) pd_int) pad_nil)) pkd_nil)) (pad_cons (pd_var 6) pad_nil)))))))))
  (zs_one (z_retF (pd_var 3)))))
theorem ok__law_makers (P : Program) (w : World) (base : Heap) (T : Tx K mg) : ∃ fd, FunD K "_law_makers" "_law_makers" (defArgs s__law_makers) (defBody s__law_makers) (defScope s__law_makers) [] [] (He.ga K "_law_makers") fd ∧ FnOk P w K mg base (L2.CX P w) 11 (He.ga K "_law_makers") fd ["pen", "names"] (spOf K (zx K) c__law_makers) := by
  obtain ⟨fd, F⟩ := T.f__law_makers
  obtain ⟨fd__law_draw, F__law_draw, O__law_draw⟩ := ok__law_draw P w base T
  obtain ⟨_, hb0⟩ := bind0 (ps := ["pen", "many"]) F__law_draw 2 [] ([.u 0, .u 1] : List Src) (fun _ _ _ _ _ _ us ws h1 h2 => match us, ws, h1, h2 with | [_, _], [], _, _ => rfl)
  have ow := ow_ok P w base T
  refine ⟨fd, F, fn_okD F sc__law_makers m__law_makers rfl (fun cdv A outer s H E hr => ?_)⟩
  have hu := hu_of hr
  have hu64 := hr.units
  have tk : Takes (cxOf (L2.CX P w) P w K mg base N__law_makers "_law_makers" (defScope s__law_makers) (He.ga K "_law_makers") cdv A outer s H E) (fun cls d _ H => E cls d H) := takes_of rfl rfl rfl rfl
  have hx : PassesS (L2.CX P w) (cxOf (L2.CX P w) P w K mg base N__law_makers "_law_makers" (defScope s__law_makers) (He.ga K "_law_makers") cdv A outer s H E) (fun cls d _ H => E cls d H) := fun σ => passAt tk σ
  exact (zs_cons (z_setO (i := 2) sc__law_makers.nd rfl (Or.inl rfl) (pl_callTy call_list_of cl_list rfl T.n_list (by decide +kernel) (pad_cons (pd_var 1) pad_nil)))
  (zs_cons (z_setO (i := 3) sc__law_makers.nd rfl (Or.inl rfl) (pl_lst (pad_cons (pd_popAt (pd_var 2) (pad_cons (pd_of (pv_callU O__law_draw (hr.mono (by decide)) rfl T.g__law_draw F__law_draw.kp hb0 (fun _ => .nil) hx (pad_cons (pd_var 0) (pad_cons (pd_callB call_len cd_len rfl T.n_len (by decide +kernel) (pad_cons (pd_var 2) pad_nil)) pad_nil)) pkd_nil)) pad_nil)) pad_nil)))
  (zs_cons (z_for (passes_of rfl) rfl (pid_range1 rfl T.n_range (pad_cons (pd_of (pv_callU O__law_draw (hr.mono (by decide)) rfl T.g__law_draw F__law_draw.kp hb0 (fun _ => .nil) hx (pad_cons (pd_var 0) (pad_cons pd_int pad_nil)) pkd_nil)) pad_nil)) (pgd_name (i := 4) sc__law_makers.nd rfl (Or.inl rfl))
  (zs_one (z_if (PWD.pt (pwd_and (ptd_neX ow passL (hr.mono (by decide)) (pd_var 2) (pd_fz (pl_lst pad_nil))) (pwd_and1 (ptd_eqX ow passL (hr.mono (by decide)) (pd_of (pv_callU O__law_draw (hr.mono (by decide)) rfl T.g__law_draw F__law_draw.kp hb0 (fun _ => .nil) hx (pad_cons (pd_var 0) (pad_cons pd_int pad_nil)) pkd_nil)) pd_int))))
  (zs_one (z_expr (pd_append (pd_var 3) (pad_cons (pd_popAt (pd_var 2) (pad_cons (pd_of (pv_callU O__law_draw (hr.mono (by decide)) rfl T.g__law_draw F__law_draw.kp hb0 (fun _ => .nil) hx (pad_cons (pd_var 0) (pad_cons (pd_callB call_len cd_len rfl T.n_len (by decide +kernel) (pad_cons (pd_var 2) pad_nil)) pad_nil)) pkd_nil)) pad_nil)) pad_nil))))
  zs_nil)))
  (zs_one (z_ret (pd_callTy call_tuple_of cd_tuple rfl T.n_tuple (by decide +kernel) (pad_cons (pd_var 3) pad_nil)))))))
theorem ok__law_pieces (P : Program) (w : World) (base : Heap) (T : Tx K mg) : ∃ fd, FunD K "_law_pieces" "_law_pieces" (defArgs s__law_pieces) (defBody s__law_pieces) (defScope s__law_pieces) [] [] (He.ga K "_law_pieces") fd ∧ FnOk P w K mg base (L2.CX P w) 12 (He.ga K "_law_pieces") fd ["pen", "names", "many", "wide"] (spOf K (zx K) c__law_pieces) := by
  obtain ⟨fd, F⟩ := T.f__law_pieces
  obtain ⟨fd__law_names, F__law_names, O__law_names⟩ := ok__law_names P w base T
  obtain ⟨fd__law_makers, F__law_makers, O__law_makers⟩ := ok__law_makers P w base T
  obtain ⟨fd__law_ends, F__law_ends, O__law_ends⟩ := ok__law_ends P w base T
  obtain ⟨_, hb0⟩ := bind0 (ps := ["pen", "many"]) F__law_names 2 [] ([.u 0, .u 1] : List Src) (fun _ _ _ _ _ _ us ws h1 h2 => match us, ws, h1, h2 with | [_, _], [], _, _ => rfl)
  obtain ⟨_, hb1⟩ := bind0 (ps := ["pen", "names"]) F__law_makers 2 [] ([.u 0, .u 1] : List Src) (fun _ _ _ _ _ _ us ws h1 h2 => match us, ws, h1, h2 with | [_, _], [], _, _ => rfl)
  obtain ⟨_, hb2⟩ := bind0 (ps := ["pen", "wide"]) F__law_ends 2 [] ([.u 0, .u 1] : List Src) (fun _ _ _ _ _ _ us ws h1 h2 => match us, ws, h1, h2 with | [_, _], [], _, _ => rfl)
  refine ⟨fd, F, fn_okD F sc__law_pieces m__law_pieces rfl (fun cdv A outer s H E hr => ?_)⟩
  have hu := hu_of hr
  have hu64 := hr.units
  have tk : Takes (cxOf (L2.CX P w) P w K mg base N__law_pieces "_law_pieces" (defScope s__law_pieces) (He.ga K "_law_pieces") cdv A outer s H E) (fun cls d _ H => E cls d H) := takes_of rfl rfl rfl rfl
  have hx : PassesS (L2.CX P w) (cxOf (L2.CX P w) P w K mg base N__law_pieces "_law_pieces" (defScope s__law_pieces) (He.ga K "_law_pieces") cdv A outer s H E) (fun cls d _ H => E cls d H) := fun σ => passAt tk σ
  exact (zs_one (z_ret (pd_fz (pl_comp (own := [("name", 4)]) (ct := .one 4) rfl sc__law_pieces.nd (pid_sq (pd_of (pv_callU O__law_names (hr.mono (by decide)) rfl T.g__law_names F__law_names.kp hb0 (fun _ => .nil) hx (pad_cons (pd_var 0) (pad_cons (pd_var 2) pad_nil)) pkd_nil))) (blkOk_by (own := [("name", 4)]) (N := N__law_pieces) (sc := defScope s__law_pieces) (by decide +kernel)) rfl (fun _ _ _ _ _ => pg_name (i := 4) sc__law_pieces.nd rfl (Or.inl rfl)) (fun _ _ _ _ _ => ptsd_nil) (fun _ _ _ _ _ => (pd_tup (pad_cons (pd_var 4) (pad_cons (pd_of (pv_callU O__law_ends (hr.mono (by decide)) rfl T.g__law_ends F__law_ends.kp hb2 (fun _ => .nil) passLS (pad_cons (pd_var 0) (pad_cons (pd_var 3) pad_nil)) pkd_nil)) (pad_cons (pd_of (pv_callU O__law_makers (hr.mono (by decide)) rfl T.g__law_makers F__law_makers.kp hb1 (fun _ => .nil) passLS (pad_cons (pd_var 0) (pad_cons (pd_var 1) pad_nil)) pkd_nil)) pad_nil)))))))))
theorem ok__law_sheet (P : Program) (w : World) (base : Heap) (T : Tx K mg) : ∃ fd, FunD K "_law_sheet" "_law_sheet" (defArgs s__law_sheet) (defBody s__law_sheet) (defScope s__law_sheet) [] [] (He.ga K "_law_sheet") fd ∧ FnOk P w K mg base (L2.CX P w) 13 (He.ga K "_law_sheet") fd ["gives", "pieces"] (spOf K (zx K) c__law_sheet) := by
  obtain ⟨fd, F⟩ := T.f__law_sheet
  obtain ⟨fd_Span___init__, F_Span___init__, O_Span___init__⟩ := ok_Span___init__ P w base T
  obtain ⟨fd_Sheet___init__, F_Sheet___init__, O_Sheet___init__⟩ := ok_Sheet___init__ P w base T
  obtain ⟨_, hb0⟩ := bindD (ps := ["self", "least", "most"]) F_Span___init__ 3 [] (shp [.u 0, .u 1]) (List.cons_ne_nil _ _) (fun _ _ _ _ _ _ _ us its ws h1 h2 h3 => match us, its, ws, h1, h2, h3 with | [_, _, _], [_], [], _, _, _ => ⟨_, rfl, rfl⟩)
  obtain ⟨_, hb1⟩ := bindD (ps := ["self", "gives", "pieces"]) F_Sheet___init__ 3 [] (shp [.u 0, .u 1]) (List.cons_ne_nil _ _) (fun _ _ _ _ _ _ _ us its ws h1 h2 h3 => match us, its, ws, h1, h2, h3 with | [_, _, _], [_, _], [], _, _, _ => ⟨_, rfl, rfl⟩)
  refine ⟨fd, F, fn_okD F sc__law_sheet m__law_sheet rfl (fun cdv A outer s H E hr => ?_)⟩
  have hu := hu_of hr
  have hu64 := hr.units
  have tk : Takes (cxOf (L2.CX P w) P w K mg base N__law_sheet "_law_sheet" (defScope s__law_sheet) (He.ga K "_law_sheet") cdv A outer s H E) (fun cls d _ H => E cls d H) := takes_of rfl rfl rfl rfl
  have hx : PassesS (L2.CX P w) (cxOf (L2.CX P w) P w K mg base N__law_sheet "_law_sheet" (defScope s__law_sheet) (He.ga K "_law_sheet") cdv A outer s H E) (fun cls d _ H => E cls d H) := fun σ => passAt tk σ
  exact (zs_cons (z_setLc (i := 2) (own := [("home", 3), ("ends", 4), ("waste", 5)]) (ct := .tup [3, 4, 5]) rfl sc__law_sheet.nd rfl rfl (sw_true rfl rfl rfl (by decide +kernel)) (pid_sq (pd_var 0)) (blkOk_by (own := [("home", 3), ("ends", 4), ("waste", 5)]) (N := N__law_sheet) (sc := defScope s__law_sheet) (by decide +kernel)) rfl (fun _ _ _ _ _ => pg_tup rfl (pgs_cons (pg_name (i := 3) sc__law_sheet.nd rfl (Or.inl rfl)) (pgs_cons (pg_name (i := 4) sc__law_sheet.nd rfl (Or.inl rfl)) (pgs_cons (pg_name (i := 5) sc__law_sheet.nd rfl (Or.inl rfl)) pgs_nil)))) (fun _ _ _ _ _ => ptsd_nil) (fun _ _ _ _ _ => (pd_tup (pad_cons (pd_var 3) (pad_cons (pd_lk (pv_makeU (cid := 0) rfl T.mk_Span rfl O_Span___init__ (hr.mono (by decide)) rfl T.g_Span hb0 (fun _ => (.cons .non .nil)) passLS (pad_cons (pd_subs hu (pd_var 4) pd_int (fun _ _ => rfl)) (pad_cons (pd_subs hu (pd_var 4) pd_int (fun _ _ => rfl)) pad_nil)) pkd_nil)) (pad_cons (pd_var 5) pad_nil))))))
  (zs_one (z_ret (pd_lk (pv_makeU (cid := 4) rfl T.mk_Sheet rfl O_Sheet___init__ (hr.mono (by decide)) rfl T.g_Sheet hb1 (fun _ => (.cons .non (.cons .non .nil))) hx (pad_cons (pd_var 2) (pad_cons (pd_fz (pl_comp (own := [("name", 6), ("ends", 4), ("makers", 7)]) (ct := .tup [6, 4, 7]) rfl sc__law_sheet.nd (pid_sq (pd_var 1)) (blkOk_by (own := [("name", 6), ("ends", 4), ("makers", 7)]) (N := N__law_sheet) (sc := defScope s__law_sheet) (by decide +kernel)) rfl (fun _ _ _ _ _ => pg_tup rfl (pgs_cons (pg_name (i := 6) sc__law_sheet.nd rfl (Or.inl rfl)) (pgs_cons (pg_name (i := 4) sc__law_sheet.nd rfl (Or.inl rfl)) (pgs_cons (pg_name (i := 7) sc__law_sheet.nd rfl (Or.inl rfl)) pgs_nil)))) (fun _ _ _ _ _ => ptsd_nil) (fun _ _ _ _ _ => (pd_tup (pad_cons (pd_var 6) (pad_cons (pd_lk (pv_makeU (cid := 0) rfl T.mk_Span rfl O_Span___init__ (hr.mono (by decide)) rfl T.g_Span hb0 (fun _ => (.cons .non .nil)) passLS (pad_cons (pd_subs hu (pd_var 4) pd_int (fun _ _ => rfl)) (pad_cons (pd_subs hu (pd_var 4) pd_int (fun _ _ => rfl)) pad_nil)) pkd_nil)) (pad_cons (pd_var 7) pad_nil))))))) pad_nil)) pkd_nil)))))
theorem ok__law_spoilt (P : Program) (w : World) (base : Heap) (T : Tx K mg) : ∃ fd, FunD K "_law_spoilt" "_law_spoilt" (defArgs s__law_spoilt) (defBody s__law_spoilt) (defScope s__law_spoilt) [] [] (He.ga K "_law_spoilt") fd ∧ FnOk P w K mg base (L2.CX P w) 11 (He.ga K "_law_spoilt") fd ["pen", "pieces", "names"] (spOf K (zx K) c__law_spoilt) := by
  obtain ⟨fd, F⟩ := T.f__law_spoilt
  obtain ⟨fd__law_draw, F__law_draw, O__law_draw⟩ := ok__law_draw P w base T
  obtain ⟨_, hb0⟩ := bind0 (ps := ["pen", "many"]) F__law_draw 2 [] ([.u 0, .u 1] : List Src) (fun _ _ _ _ _ _ us ws h1 h2 => match us, ws, h1, h2 with | [_, _], [], _, _ => rfl)
  have ow := ow_ok P w base T
  refine ⟨fd, F, fn_okD F sc__law_spoilt m__law_spoilt rfl (fun cdv A outer s H E hr => ?_)⟩
  have hu := hu_of hr
  have hu64 := hr.units
  have tk : Takes (cxOf (L2.CX P w) P w K mg base N__law_spoilt "_law_spoilt" (defScope s__law_spoilt) (He.ga K "_law_spoilt") cdv A outer s H E) (fun cls d _ H => E cls d H) := takes_of rfl rfl rfl rfl
  have hx : PassesS (L2.CX P w) (cxOf (L2.CX P w) P w K mg base N__law_spoilt "_law_spoilt" (defScope s__law_spoilt) (He.ga K "_law_spoilt") cdv A outer s H E) (fun cls d _ H => E cls d H) := fun σ => passAt tk σ
  unfold d__law_spoilt d__law_spoilt_12 d__law_spoilt_11 d__law_spoilt_10 d__law_spoilt_9 d__law_spoilt_8 d__law_spoilt_7 d__law_spoilt_6 d__law_spoilt_5 d__law_spoilt_4 d__law_spoilt_3 d__law_spoilt_2 d__law_spoilt_1
  exact (zs_cons (z_set (i := 3) sc__law_spoilt.nd rfl (Or.inl rfl) (pd_of (pv_callU O__law_draw (hr.mono (by decide)) rfl T.g__law_draw F__law_draw.kp hb0 (fun _ => .nil) hx (pad_cons (pd_var 0) (pad_cons (pd_callB call_len cd_len rfl T.n_len (by decide +kernel) (pad_cons (pd_var 1) pad_nil)) pad_nil)) pkd_nil)))
  (zs_cons (z_asgG (pd_subs hu (pd_var 1) (pd_var 3) (fun _ _ => rfl)) (pgd_tup rfl (pgds_cons (pgd_name (i := 4) sc__law_spoilt.nd rfl (Or.inl rfl)) (pgds_cons (pgd_name (i := 5) sc__law_spoilt.nd rfl (Or.inl rfl)) (pgds_cons (pgd_name (i := 6) sc__law_spoilt.nd rfl (Or.inl rfl)) pgds_nil)))))
  (zs_cons (z_set (i := 7) sc__law_spoilt.nd rfl (Or.inl rfl) (pd_of (pv_callU O__law_draw (hr.mono (by decide)) rfl T.g__law_draw F__law_draw.kp hb0 (fun _ => .nil) hx (pad_cons (pd_var 0) (pad_cons (pd_plus (pd_callB call_len cd_len rfl T.n_len (by decide +kernel) (pad_cons (pd_var 6) pad_nil)) pd_int) pad_nil)) pkd_nil)))
  (zs_cons (z_set (i := 8) sc__law_spoilt.nd rfl (Or.inl rfl) (pd_subs hu (pd_var 2) (pd_of (pv_callU O__law_draw (hr.mono (by decide)) rfl T.g__law_draw F__law_draw.kp hb0 (fun _ => .nil) hx (pad_cons (pd_var 0) (pad_cons (pd_callB call_len cd_len rfl T.n_len (by decide +kernel) (pad_cons (pd_var 2) pad_nil)) pad_nil)) pkd_nil)) (fun _ _ => rfl)))
  (zs_cons (z_set (i := 9) sc__law_spoilt.nd rfl (Or.inl rfl) (pd_of (pv_callU O__law_draw (hr.mono (by decide)) rfl T.g__law_draw F__law_draw.kp hb0 (fun _ => .nil) hx (pad_cons (pd_var 0) (pad_cons pd_int pad_nil)) pkd_nil)))
  (zs_cons (z_if (ptd_eqX ow passL (hr.mono (by decide)) (pd_var 9) pd_int)
  (zs_one (z_set (i := 10) sc__law_spoilt.nd rfl (Or.inl rfl) (pd_tup (pad_cons (pd_subs hu (pd_subs hu (pd_var 1) (pd_of (pv_callU O__law_draw (hr.mono (by decide)) rfl T.g__law_draw F__law_draw.kp hb0 (fun _ => .nil) hx (pad_cons (pd_var 0) (pad_cons (pd_plus (pd_var 3) pd_int) pad_nil)) pkd_nil)) (fun _ _ => rfl)) pd_int (fun _ _ => rfl)) (pad_cons (pd_var 5) (pad_cons (pd_var 6) pad_nil))))))
  (zs_one (z_if (ptd_eqX ow passL (hr.mono (by decide)) (pd_var 9) pd_int)
  (zs_one (z_set (i := 10) sc__law_spoilt.nd rfl (Or.inl rfl) (pd_tup (pad_cons (pd_var 4) (pad_cons (pd_var 5) (pad_cons (pd_plus (pd_plus (pd_cutS (pd_var 6) pod_none (pod_some (pd_var 7))) (pd_tup (pad_cons (pd_subs hu (pd_var 6) (pd_of (pv_callU O__law_draw (hr.mono (by decide)) rfl T.g__law_draw F__law_draw.kp hb0 (fun _ => .nil) hx (pad_cons (pd_var 0) (pad_cons (pd_callB call_len cd_len rfl T.n_len (by decide +kernel) (pad_cons (pd_var 6) pad_nil)) pad_nil)) pkd_nil)) (fun _ _ => rfl)) pad_nil))) (pd_cutS (pd_var 6) (pod_some (pd_var 7)) pod_none)) pad_nil))))))
  (zs_one (z_if (ptd_eqX ow passL (hr.mono (by decide)) (pd_var 9) pd_int)
  (zs_one (z_set (i := 10) sc__law_spoilt.nd rfl (Or.inl rfl) (pd_tup (pad_cons (pd_var 4) (pad_cons (pd_var 5) (pad_cons (pd_plus (pd_plus (pd_cutS (pd_var 6) pod_none (pod_some (pd_var 7))) (pd_tup (pad_cons (pd_plus pd_str (pd_cutS (pd_var 4) pod_none (pod_some pd_int))) pad_nil))) (pd_cutS (pd_var 6) (pod_some (pd_var 7)) pod_none)) pad_nil))))))
  (zs_one (z_set (i := 10) sc__law_spoilt.nd rfl (Or.inl rfl) (pd_tup (pad_cons (pd_var 4) (pad_cons (pd_var 5) (pad_cons (pd_plus (pd_plus (pd_cutS (pd_var 6) pod_none (pod_some (pd_var 7))) (pd_tup (pad_cons (pd_var 8) pad_nil))) (pd_cutS (pd_var 6) (pod_some (pd_var 7)) pod_none)) pad_nil)))))))))))
  (zs_one (z_ret (pd_plus (pd_plus (pd_fz (pl_cut (pd_var 1) pod_none (pod_some (pd_var 3)))) (pd_fz (pl_lst (pad_cons (pd_var 10) pad_nil)))) (pd_fz (pl_cut (pd_var 1) (pod_some (pd_plus (pd_var 3) pd_int)) pod_none)))))))))))
theorem ok__law_due (P : Program) (w : World) (base : Heap) (T : Tx K mg) : ∃ fd, FunD K "_law_due" "_law_due" (defArgs s__law_due) (defBody s__law_due) (defScope s__law_due) [] [] (He.ga K "_law_due") fd ∧ FnOk P w K mg base (L2.CX P w) 10 (He.ga K "_law_due") fd ["names", "pieces"] (spOf K (zx K) c__law_due) := by
  obtain ⟨fd, F⟩ := T.f__law_due
  have ow := ow_ok P w base T
  refine ⟨fd, F, fn_okD F sc__law_due m__law_due rfl (fun cdv A outer s H E hr => ?_)⟩
  have hu := hu_of hr
  have hu64 := hr.units
  have tk : Takes (cxOf (L2.CX P w) P w K mg base N__law_due "_law_due" (defScope s__law_due) (He.ga K "_law_due") cdv A outer s H E) (fun cls d _ H => E cls d H) := takes_of rfl rfl rfl rfl
  have hx : PassesS (L2.CX P w) (cxOf (L2.CX P w) P w K mg base N__law_due "_law_due" (defScope s__law_due) (He.ga K "_law_due") cdv A outer s H E) (fun cls d _ H => E cls d H) := fun σ => passAt tk σ
  exact (zs_cons (z_setO (i := 2) sc__law_due.nd rfl (Or.inl rfl) (pl_lst pad_nil))
  (zs_cons (z_forV (passes_of rfl) rfl (pd_var 1) (pgd_tup rfl (pgds_cons (pgd_name (i := 3) sc__law_due.nd rfl (Or.inl rfl)) (pgds_cons (pgd_name (i := 4) sc__law_due.nd rfl (Or.inl rfl)) (pgds_cons (pgd_name (i := 5) sc__law_due.nd rfl (Or.inl rfl)) pgds_nil))))
  (zs_cons (z_if (ptd_inX ow passL (hr.mono (by decide)) (pd_var 3) (pd_var 2))
  (zs_one (z_ret (pd_tup (pad_cons pd_str (pad_cons (pd_var 3) pad_nil)))))
  zs_nil)
  (zs_cons (z_expr (pd_append (pd_var 2) (pad_cons (pd_var 3) pad_nil)))
  (zs_one (z_for (passes_of rfl) rfl (pid_range1 rfl T.n_range (pad_cons (pd_callB call_len cd_len rfl T.n_len (by decide +kernel) (pad_cons (pd_var 5) pad_nil)) pad_nil)) (pgd_name (i := 6) sc__law_due.nd rfl (Or.inl rfl))
  (zs_cons (z_if (ptd_inX ow passL (hr.mono (by decide)) (pd_subs hu (pd_var 5) (pd_var 6) (fun _ _ => rfl)) (pd_cutS (pd_var 5) pod_none (pod_some (pd_var 6))))
  (zs_one (z_ret (pd_tup (pad_cons pd_str (pad_cons (pd_subs hu (pd_var 5) (pd_var 6) (fun _ _ => rfl)) pad_nil)))))
  zs_nil)
  (zs_one (z_if (ptd_notInX ow passL (hr.mono (by decide)) (pd_subs hu (pd_var 5) (pd_var 6) (fun _ _ => rfl)) (pd_var 0))
  (zs_one (z_ret (pd_tup (pad_cons pd_str (pad_cons (pd_subs hu (pd_var 5) (pd_var 6) (fun _ _ => rfl)) pad_nil)))))
  zs_nil))))))))
  (zs_one (z_ret pd_non))))
theorem gv__law_told (P : Program) (w : World) (base : Heap) (T : Tx K mg) : ∃ fd, FunD K "_law_told" "_law_told" (defArgs s__law_told) (defBody s__law_told) (defScope s__law_told) [] [] (He.ga K "_law_told") fd ∧ ∀ (X : Cx) (q : Str) (cdv : Value), X.prog = P → X.w = w → X.K = K → X.mg = mg → X.base = base → QL.Gives3 X N__law_told "_law_told" (defScope s__law_told) (He.ga K "_law_told") cdv (defBody s__law_told) "asked" q (TT3 K (zx K) N__law_told d__law_told q) := by
  obtain ⟨fd, F⟩ := T.f__law_told
  have ow := ow_ok P w base T
  refine ⟨fd, F, fun X q cdv h1 h2 h3 h4 h5 => ?_⟩
  subst h1 h2 h3 h4 h5
  refine gives_of (fun f c σ pv d s H hr hact => ?_)
  have hu := hu_of hr
  have hu64 := hr.units
  exact (zs_cons (z_set (i := 1) sc__law_told.nd rfl (Or.inl rfl) pd_non)
  (zs_cons (z_try rfl rfl sc__law_told.nd rfl takes_noneE (fun W pn xe tk pw => (zs_one (z_expr (hact W pn xe _ _ tk)))) (.as (i := 2) (p := tblC [(11, true), (18, true), (19, true)]) (cl_tup (cs := [(.ref (He.ga X.K "Twice")), (.ref (He.ga X.K "NoHome")), (.ref (He.ga X.K "NoPiece"))]) (.cons (nm_t ⟨rfl, by decide, .inl T.g_Twice⟩) (.cons (nm_t ⟨rfl, by decide, .inl T.g_NoHome⟩) (.cons (nm_t ⟨rfl, by decide, .inl T.g_NoPiece⟩) .nil))) (Nat.le_of_ble_eq_true rfl)) (tb_cons (c := 11) (b := true) (P := fun c b => PySem.W.exmAny X.K (.ref ((zx X.K).cls c)) [(.ref (He.ga X.K "Twice")), (.ref (He.ga X.K "NoHome")), (.ref (He.ga X.K "NoPiece"))] = some b) T.xm_Twice_Twice_NoHome_NoPiece (tb_cons (c := 18) (b := true) (P := fun c b => PySem.W.exmAny X.K (.ref ((zx X.K).cls c)) [(.ref (He.ga X.K "Twice")), (.ref (He.ga X.K "NoHome")), (.ref (He.ga X.K "NoPiece"))] = some b) T.xm_NoHome_Twice_NoHome_NoPiece (tb_cons (c := 19) (b := true) (P := fun c b => PySem.W.exmAny X.K (.ref ((zx X.K).cls c)) [(.ref (He.ga X.K "Twice")), (.ref (He.ga X.K "NoHome")), (.ref (He.ga X.K "NoPiece"))] = some b) T.xm_NoPiece_Twice_NoHome_NoPiece tb_nil))) rfl rfl (fun a pn => (zs_one (z_set (i := 1) sc__law_told.nd rfl (Or.inl rfl) (pd_var 2)))) .nil) zs_nil)
  (zs_cons (z_if (ptd_isN (pd_var 1))
  (zs_one (z_ret pd_non))
  zs_nil)
  (zs_cons (z_set (i := 3) sc__law_told.nd rfl (Or.inl rfl) (pd_fz (pl_lst (pad_cons (pd_isX (C := (.i 11)) (tb := [(11, true), (18, false), (19, false)]) (tb_cons (c := 11) (b := true) (P := fun c b => XcC X.K ((zx X.K).cls c) ∧ PySem.W.kitOne X.K (.ref ((zx X.K).cls c)) (Ty0.v (zx X.K) (.i 11)) = some b) ⟨T.xc_Twice, T.xk_Twice_Twice⟩ (tb_cons (c := 18) (b := false) (P := fun c b => XcC X.K ((zx X.K).cls c) ∧ PySem.W.kitOne X.K (.ref ((zx X.K).cls c)) (Ty0.v (zx X.K) (.i 11)) = some b) ⟨T.xc_NoHome, T.xk_NoHome_Twice⟩ (tb_cons (c := 19) (b := false) (P := fun c b => XcC X.K ((zx X.K).cls c) ∧ PySem.W.kitOne X.K (.ref ((zx X.K).cls c)) (Ty0.v (zx X.K) (.i 11)) = some b) ⟨T.xc_NoPiece, T.xk_NoPiece_Twice⟩ tb_nil))) rfl T.n_isinstance (pd_var 1) (pe_glob rfl T.g_Twice rfl)) (pad_cons (pd_isX (C := (.i 18)) (tb := [(11, false), (18, true), (19, false)]) (tb_cons (c := 11) (b := false) (P := fun c b => XcC X.K ((zx X.K).cls c) ∧ PySem.W.kitOne X.K (.ref ((zx X.K).cls c)) (Ty0.v (zx X.K) (.i 18)) = some b) ⟨T.xc_Twice, T.xk_Twice_NoHome⟩ (tb_cons (c := 18) (b := true) (P := fun c b => XcC X.K ((zx X.K).cls c) ∧ PySem.W.kitOne X.K (.ref ((zx X.K).cls c)) (Ty0.v (zx X.K) (.i 18)) = some b) ⟨T.xc_NoHome, T.xk_NoHome_NoHome⟩ (tb_cons (c := 19) (b := false) (P := fun c b => XcC X.K ((zx X.K).cls c) ∧ PySem.W.kitOne X.K (.ref ((zx X.K).cls c)) (Ty0.v (zx X.K) (.i 18)) = some b) ⟨T.xc_NoPiece, T.xk_NoPiece_NoHome⟩ tb_nil))) rfl T.n_isinstance (pd_var 1) (pe_glob rfl T.g_NoHome rfl)) (pad_cons (pd_isX (C := (.i 19)) (tb := [(11, false), (18, false), (19, true)]) (tb_cons (c := 11) (b := false) (P := fun c b => XcC X.K ((zx X.K).cls c) ∧ PySem.W.kitOne X.K (.ref ((zx X.K).cls c)) (Ty0.v (zx X.K) (.i 19)) = some b) ⟨T.xc_Twice, T.xk_Twice_NoPiece⟩ (tb_cons (c := 18) (b := false) (P := fun c b => XcC X.K ((zx X.K).cls c) ∧ PySem.W.kitOne X.K (.ref ((zx X.K).cls c)) (Ty0.v (zx X.K) (.i 19)) = some b) ⟨T.xc_NoHome, T.xk_NoHome_NoPiece⟩ (tb_cons (c := 19) (b := true) (P := fun c b => XcC X.K ((zx X.K).cls c) ∧ PySem.W.kitOne X.K (.ref ((zx X.K).cls c)) (Ty0.v (zx X.K) (.i 19)) = some b) ⟨T.xc_NoPiece, T.xk_NoPiece_NoPiece⟩ tb_nil))) rfl T.n_isinstance (pd_var 1) (pe_glob rfl T.g_NoPiece rfl)) pad_nil))))))
  (zs_cons (z_set (i := 4) sc__law_told.nd rfl (Or.inl rfl) (pd_fz (pl_lst (pad_cons (pd_isX (C := (.b "ValueError")) (tb := [(11, true), (18, false), (19, false)]) (tb_cons (c := 11) (b := true) (P := fun c b => XcC X.K ((zx X.K).cls c) ∧ PySem.W.kitOne X.K (.ref ((zx X.K).cls c)) (Ty0.v (zx X.K) (.b "ValueError")) = some b) ⟨T.xc_Twice, T.xk_Twice_ValueError⟩ (tb_cons (c := 18) (b := false) (P := fun c b => XcC X.K ((zx X.K).cls c) ∧ PySem.W.kitOne X.K (.ref ((zx X.K).cls c)) (Ty0.v (zx X.K) (.b "ValueError")) = some b) ⟨T.xc_NoHome, T.xk_NoHome_ValueError⟩ (tb_cons (c := 19) (b := false) (P := fun c b => XcC X.K ((zx X.K).cls c) ∧ PySem.W.kitOne X.K (.ref ((zx X.K).cls c)) (Ty0.v (zx X.K) (.b "ValueError")) = some b) ⟨T.xc_NoPiece, T.xk_NoPiece_ValueError⟩ tb_nil))) rfl T.n_isinstance (pd_var 1) (pe_bltn rfl T.n_ValueError (by decide +kernel) rfl)) (pad_cons (pd_isX (C := (.b "KeyError")) (tb := [(11, false), (18, true), (19, true)]) (tb_cons (c := 11) (b := false) (P := fun c b => XcC X.K ((zx X.K).cls c) ∧ PySem.W.kitOne X.K (.ref ((zx X.K).cls c)) (Ty0.v (zx X.K) (.b "KeyError")) = some b) ⟨T.xc_Twice, T.xk_Twice_KeyError⟩ (tb_cons (c := 18) (b := true) (P := fun c b => XcC X.K ((zx X.K).cls c) ∧ PySem.W.kitOne X.K (.ref ((zx X.K).cls c)) (Ty0.v (zx X.K) (.b "KeyError")) = some b) ⟨T.xc_NoHome, T.xk_NoHome_KeyError⟩ (tb_cons (c := 19) (b := true) (P := fun c b => XcC X.K ((zx X.K).cls c) ∧ PySem.W.kitOne X.K (.ref ((zx X.K).cls c)) (Ty0.v (zx X.K) (.b "KeyError")) = some b) ⟨T.xc_NoPiece, T.xk_NoPiece_KeyError⟩ tb_nil))) rfl T.n_isinstance (pd_var 1) (pe_bltn rfl T.n_KeyError (by decide +kernel) rfl)) (pad_cons (pd_isX (C := (.b "KeyError")) (tb := [(11, false), (18, true), (19, true)]) (tb_cons (c := 11) (b := false) (P := fun c b => XcC X.K ((zx X.K).cls c) ∧ PySem.W.kitOne X.K (.ref ((zx X.K).cls c)) (Ty0.v (zx X.K) (.b "KeyError")) = some b) ⟨T.xc_Twice, T.xk_Twice_KeyError⟩ (tb_cons (c := 18) (b := true) (P := fun c b => XcC X.K ((zx X.K).cls c) ∧ PySem.W.kitOne X.K (.ref ((zx X.K).cls c)) (Ty0.v (zx X.K) (.b "KeyError")) = some b) ⟨T.xc_NoHome, T.xk_NoHome_KeyError⟩ (tb_cons (c := 19) (b := true) (P := fun c b => XcC X.K ((zx X.K).cls c) ∧ PySem.W.kitOne X.K (.ref ((zx X.K).cls c)) (Ty0.v (zx X.K) (.b "KeyError")) = some b) ⟨T.xc_NoPiece, T.xk_NoPiece_KeyError⟩ tb_nil))) rfl T.n_isinstance (pd_var 1) (pe_bltn rfl T.n_KeyError (by decide +kernel) rfl)) pad_nil))))))
  (zs_cons (z_if (PWD.pt (pwd_or (ptd_neX ow passL (hr.mono (by decide)) (pd_mt (Or.inl rfl) PySem.F.plainAttrs_list PySem.F.slot_list_count PySem.F.type_list_count (mt_countX ow passL (hr.mono (by decide))) md_countX (pd_var 3) (pad_cons pd_bl pad_nil)) pd_int) (pwd_or1 (ptd_not (ptd_tru (pd_subs hu (pd_var 4) (pd_mt (Or.inl rfl) PySem.F.plainAttrs_list PySem.F.slot_list_index PySem.F.type_list_index (mt_indexD (lt65 hr)) md_index (pd_var 3) (pad_cons pd_bl pad_nil)) (fun _ _ => rfl)))))))
  (zs_one (z_ret (pd_tup (pad_cons pd_str (pad_cons (pd_xf (tb := [(11, 0), (18, 0), (19, 0)]) (tb_cons (c := 11) (b := 0) (P := fun c j => XcC X.K ((zx X.K).cls c) ∧ PySem.W.findIn X.K (.ref ((zx X.K).cls c)) "name" = some none ∧ (fldN c)[j]? = some ("name" : Str)) ⟨T.xc_Twice, T.xno_Twice_name, rfl⟩ (tb_cons (c := 18) (b := 0) (P := fun c j => XcC X.K ((zx X.K).cls c) ∧ PySem.W.findIn X.K (.ref ((zx X.K).cls c)) "name" = some none ∧ (fldN c)[j]? = some ("name" : Str)) ⟨T.xc_NoHome, T.xno_NoHome_name, rfl⟩ (tb_cons (c := 19) (b := 0) (P := fun c j => XcC X.K ((zx X.K).cls c) ∧ PySem.W.findIn X.K (.ref ((zx X.K).cls c)) "name" = some none ∧ (fldN c)[j]? = some ("name" : Str)) ⟨T.xc_NoPiece, T.xno_NoPiece_name, rfl⟩ tb_nil))) (pd_var 1)) pad_nil)))))
  zs_nil)
  (zs_one (z_ret (pd_tup (pad_cons (pd_subs hu (pd_fz (pl_lst (pad_cons pd_str (pad_cons pd_str (pad_cons pd_str pad_nil))))) (pd_mt (Or.inl rfl) PySem.F.plainAttrs_list PySem.F.slot_list_index PySem.F.type_list_index (mt_indexD (lt65 hr)) md_index (pd_var 3) (pad_cons pd_bl pad_nil)) (fun _ _ => rfl)) (pad_cons (pd_xf (tb := [(11, 0), (18, 0), (19, 0)]) (tb_cons (c := 11) (b := 0) (P := fun c j => XcC X.K ((zx X.K).cls c) ∧ PySem.W.findIn X.K (.ref ((zx X.K).cls c)) "name" = some none ∧ (fldN c)[j]? = some ("name" : Str)) ⟨T.xc_Twice, T.xno_Twice_name, rfl⟩ (tb_cons (c := 18) (b := 0) (P := fun c j => XcC X.K ((zx X.K).cls c) ∧ PySem.W.findIn X.K (.ref ((zx X.K).cls c)) "name" = some none ∧ (fldN c)[j]? = some ("name" : Str)) ⟨T.xc_NoHome, T.xno_NoHome_name, rfl⟩ (tb_cons (c := 19) (b := 0) (P := fun c j => XcC X.K ((zx X.K).cls c) ∧ PySem.W.findIn X.K (.ref ((zx X.K).cls c)) "name" = some none ∧ (fldN c)[j]? = some ("name" : Str)) ⟨T.xc_NoPiece, T.xno_NoPiece_name, rfl⟩ tb_nil))) (pd_var 1)) pad_nil)))))))))))
theorem ok_law (P : Program) (w : World) (base : Heap) (T : Tx K mg) (hTB : ∀ p ∈ csT tsC K, LamX.TabB base mg p.1 p.2) : ∃ fd, FunD K "law" "law" (defArgs s_law) (defBody s_law) (defScope s_law) [] [] (He.ga K "law") fd ∧ FnOk P w K mg base (L2.CX P w) 17 (He.ga K "law") fd ["script"] (spOf K (zx K) c_law) := by
  obtain ⟨fd, F⟩ := T.f_law
  obtain ⟨fd__law_pen, F__law_pen, O__law_pen⟩ := ok__law_pen P w base T
  obtain ⟨fd__law_names, F__law_names, O__law_names⟩ := ok__law_names P w base T
  obtain ⟨fd__law_draw, F__law_draw, O__law_draw⟩ := ok__law_draw P w base T
  obtain ⟨fd__law_gives, F__law_gives, O__law_gives⟩ := ok__law_gives P w base T
  obtain ⟨fd__law_pieces, F__law_pieces, O__law_pieces⟩ := ok__law_pieces P w base T
  obtain ⟨fd__law_spoilt, F__law_spoilt, O__law_spoilt⟩ := ok__law_spoilt P w base T
  obtain ⟨fd__law_told, F__law_told, G__law_told⟩ := gv__law_told P w base T
  obtain ⟨fd__law_sheet, F__law_sheet, O__law_sheet⟩ := ok__law_sheet P w base T
  obtain ⟨fd__law_due, F__law_due, O__law_due⟩ := ok__law_due P w base T
  obtain ⟨fd_Sheet_pieces, F_Sheet_pieces, O_Sheet_pieces⟩ := ok_Sheet_pieces P w base T
  obtain ⟨fd_Sheet_homes, F_Sheet_homes, O_Sheet_homes⟩ := ok_Sheet_homes P w base T
  obtain ⟨fd_Sheet_got, F_Sheet_got, O_Sheet_got⟩ := ok_Sheet_got P w base T
  obtain ⟨fd_Sheet_waste, F_Sheet_waste, O_Sheet_waste⟩ := ok_Sheet_waste P w base T
  obtain ⟨fd_Sheet_made_by, F_Sheet_made_by, O_Sheet_made_by⟩ := ok_Sheet_made_by P w base T
  obtain ⟨fd_Sheet_yarn, F_Sheet_yarn, O_Sheet_yarn⟩ := ok_Sheet_yarn P w base T
  obtain ⟨fd_Sheet_makers, F_Sheet_makers, O_Sheet_makers⟩ := ok_Sheet_makers P w base T
  obtain ⟨_, hb0⟩ := bind0 (ps := ["script"]) F__law_pen 1 [] ([.u 0] : List Src) (fun _ _ _ _ _ _ us ws h1 h2 => match us, ws, h1, h2 with | [_], [], _, _ => rfl)
  obtain ⟨_, hb1⟩ := bind0 (ps := ["pen", "many"]) F__law_draw 2 [] ([.u 0, .u 1] : List Src) (fun _ _ _ _ _ _ us ws h1 h2 => match us, ws, h1, h2 with | [_, _], [], _, _ => rfl)
  obtain ⟨_, hb2⟩ := bind0 (ps := ["pen", "many"]) F__law_names 2 [] ([.u 0, .u 1] : List Src) (fun _ _ _ _ _ _ us ws h1 h2 => match us, ws, h1, h2 with | [_, _], [], _, _ => rfl)
  obtain ⟨_, hb3⟩ := bind0 (ps := ["pen", "names", "wide"]) F__law_gives 3 [] ([.u 0, .u 1, .u 2] : List Src) (fun _ _ _ _ _ _ us ws h1 h2 => match us, ws, h1, h2 with | [_, _, _], [], _, _ => rfl)
  obtain ⟨_, hb4⟩ := bind0 (ps := ["pen", "names", "many", "wide"]) F__law_pieces 4 [] ([.u 0, .u 1, .u 2, .u 3] : List Src) (fun _ _ _ _ _ _ us ws h1 h2 => match us, ws, h1, h2 with | [_, _, _, _], [], _, _ => rfl)
  obtain ⟨_, hb5⟩ := bind0 (ps := ["pen", "pieces", "names"]) F__law_spoilt 3 [] ([.u 0, .u 1, .u 2] : List Src) (fun _ _ _ _ _ _ us ws h1 h2 => match us, ws, h1, h2 with | [_, _, _], [], _, _ => rfl)
  obtain ⟨_, hb6⟩ := bind0 (ps := ["gives", "pieces"]) F__law_sheet 2 [] ([.u 0, .u 1] : List Src) (fun _ _ _ _ _ _ us ws h1 h2 => match us, ws, h1, h2 with | [_, _], [], _, _ => rfl)
  obtain ⟨_, hb7⟩ := bind0 (ps := ["names", "pieces"]) F__law_due 2 [] ([.u 0, .u 1] : List Src) (fun _ _ _ _ _ _ us ws h1 h2 => match us, ws, h1, h2 with | [_, _], [], _, _ => rfl)
  obtain ⟨_, hb8⟩ := bind0 (ps := ["self"]) F_Sheet_pieces 1 [] (shp []) (fun _ _ _ _ _ _ us ws h1 h2 => match us, ws, h1, h2 with | [_], [], _, _ => rfl)
  obtain ⟨_, hb9⟩ := bind0 (ps := ["self"]) F_Sheet_homes 1 [] (shp []) (fun _ _ _ _ _ _ us ws h1 h2 => match us, ws, h1, h2 with | [_], [], _, _ => rfl)
  obtain ⟨_, hb10⟩ := bind0 (ps := ["self", "home"]) F_Sheet_got 2 [] (shp [.u 0]) (fun _ _ _ _ _ _ us ws h1 h2 => match us, ws, h1, h2 with | [_, _], [], _, _ => rfl)
  obtain ⟨_, hb11⟩ := bind0 (ps := ["self", "home"]) F_Sheet_waste 2 [] (shp [.u 0]) (fun _ _ _ _ _ _ us ws h1 h2 => match us, ws, h1, h2 with | [_, _], [], _, _ => rfl)
  obtain ⟨_, hb12⟩ := bind0 (ps := ["self", "home"]) F_Sheet_made_by 2 [] (shp [.u 0]) (fun _ _ _ _ _ _ us ws h1 h2 => match us, ws, h1, h2 with | [_, _], [], _, _ => rfl)
  obtain ⟨_, hb13⟩ := bind0 (ps := ["self", "piece"]) F_Sheet_yarn 2 [] (shp [.u 0]) (fun _ _ _ _ _ _ us ws h1 h2 => match us, ws, h1, h2 with | [_, _], [], _, _ => rfl)
  obtain ⟨_, hb14⟩ := bind0 (ps := ["self", "piece"]) F_Sheet_makers 2 [] (shp [.u 0]) (fun _ _ _ _ _ _ us ws h1 h2 => match us, ws, h1, h2 with | [_, _], [], _, _ => rfl)
  have ow := ow_ok P w base T
  refine ⟨fd, F, fn_okC F T.co_law sc_law m_law rfl (fun A outer s H E hr => ?_)⟩
  have hu := hu_of hr
  have hu64 := hr.units
  have tk : Takes (cxOf (L2.CX P w) P w K mg base N_law "law" (defScope s_law) (He.ga K "law") (.ref (tabAt K "law").1) A outer s H E) (fun cls d _ H => E cls d H) := takes_of rfl rfl rfl rfl
  have hx : PassesS (L2.CX P w) (cxOf (L2.CX P w) P w K mg base N_law "law" (defScope s_law) (He.ga K "law") (.ref (tabAt K "law").1) A outer s H E) (fun cls d _ H => E cls d H) := fun σ => passAt tk σ
  unfold d_law d_law_20 d_law_19 d_law_18 d_law_17 d_law_16 d_law_15 d_law_14 d_law_13 d_law_12 d_law_11 d_law_10 d_law_9 d_law_8 d_law_7 d_law_6 d_law_5 d_law_4 d_law_3 d_law_2 d_law_1
  exact (zs_cons (z_setW (i := 1) sc_law.nd rfl (Or.inl rfl) (pv_callU O__law_pen (hr.mono (by decide)) rfl T.g__law_pen F__law_pen.kp hb0 (fun _ => .nil) hx (pad_cons (pd_var 0) pad_nil) pkd_nil))
  (zs_cons (z_for (passes_of rfl) rfl (pid_range1 rfl T.n_range (pad_cons (pd_plus pd_int (pd_callB (call_min2 rfl) cd_min2 rfl T.n_min (by decide +kernel) (pad_cons pd_int (pad_cons (pd_div (pd_callB call_len cd_len rfl T.n_len (by decide +kernel) (pad_cons (pd_var 0) pad_nil)) pd_int) pad_nil)))) pad_nil)) (pgd_name (i := 2) sc_law.nd rfl (Or.inl rfl))
  (zs_cons (z_set (i := 3) sc_law.nd rfl (Or.inl rfl) (pd_of (pv_callU O__law_names (hr.mono (by decide)) rfl T.g__law_names F__law_names.kp hb2 (fun _ => .nil) hx (pad_cons (pd_var 1) (pad_cons (pd_plus pd_int (pd_of (pv_callU O__law_draw (hr.mono (by decide)) rfl T.g__law_draw F__law_draw.kp hb1 (fun _ => .nil) hx (pad_cons (pd_var 1) (pad_cons pd_int pad_nil)) pkd_nil))) pad_nil)) pkd_nil)))
  (zs_cons (z_set (i := 8) sc_law.nd rfl (Or.inr rfl) (pd_of (pv_callU O__law_gives (hr.mono (by decide)) rfl T.g__law_gives F__law_gives.kp hb3 (fun _ => .nil) hx (pad_cons (pd_var 1) (pad_cons (pd_var 3) (pad_cons pd_int pad_nil))) pkd_nil)))
  (zs_cons (z_set (i := 4) sc_law.nd rfl (Or.inl rfl) (pd_of (pv_callU O__law_pieces (hr.mono (by decide)) rfl T.g__law_pieces F__law_pieces.kp hb4 (fun _ => .nil) hx (pad_cons (pd_var 1) (pad_cons (pd_var 3) (pad_cons (pd_plus pd_int (pd_of (pv_callU O__law_draw (hr.mono (by decide)) rfl T.g__law_draw F__law_draw.kp hb1 (fun _ => .nil) hx (pad_cons (pd_var 1) (pad_cons pd_int pad_nil)) pkd_nil))) (pad_cons pd_int pad_nil)))) pkd_nil)))
  (zs_cons (z_set (i := 10) sc_law.nd rfl (Or.inr rfl) (pd_var 4))
  (zs_cons (z_for (passes_of rfl) rfl (pid_range1 rfl T.n_range (pad_cons (pd_plus pd_int (pd_of (pv_callU O__law_draw (hr.mono (by decide)) rfl T.g__law_draw F__law_draw.kp hb1 (fun _ => .nil) hx (pad_cons (pd_var 1) (pad_cons pd_int pad_nil)) pkd_nil))) pad_nil)) (pgd_name (i := 5) sc_law.nd rfl (Or.inl rfl))
  (zs_one (z_set (i := 10) sc_law.nd rfl (Or.inr rfl) (pd_of (pv_callU O__law_spoilt (hr.mono (by decide)) rfl T.g__law_spoilt F__law_spoilt.kp hb5 (fun _ => .nil) hx (pad_cons (pd_var 1) (pad_cons (pd_var 10) (pad_cons (pd_var 3) pad_nil))) pkd_nil)))))
  (zs_cons (z_if (ptd_neX ow passL (hr.mono (by decide)) (pd_lamF (B := d__law_told) (k := 13) rfl T.g__law_told F__law_told (F__law_told.bindsN (fun _ _ _ _ _ _ us hl => match us, hl with | [_], _ => rfl)) sc__law_told rfl (by first | exact Or.inl rfl | exact Or.inr (Or.inl rfl)) rfl (fun cdv => G__law_told _ _ cdv rfl rfl rfl rfl rfl) (cs_in hTB (.head _)) rfl (hr.mono (by decide)) (LamX.lamS_by (sc := defScope s_law) (by decide +kernel)) rfl (fun _ _ _ _ _ => rfl) (tab_in (hs := hsC) (xs := xsC) (.head _)) rfl (by decide) (fun A outer s H E f c' hr => by have hu := hu_of hr; have hu64 := hr.units; exact (pd_of (pv_callU O__law_sheet (hr.mono (by decide)) rfl T.g__law_sheet F__law_sheet.kp hb6 (fun _ => .nil) (fun σ => passAt (takes_of rfl rfl rfl rfl) σ) (pad_cons (pd_var 8) (pad_cons (pd_var 10) pad_nil)) pkd_nil)))) (pd_of (pv_callU O__law_due (hr.mono (by decide)) rfl T.g__law_due F__law_due.kp hb7 (fun _ => .nil) hx (pad_cons (pd_var 3) (pad_cons (pd_var 10) pad_nil)) pkd_nil)))
  (zs_one (z_ret pd_bl))
  zs_nil)
  (zs_cons (z_set (i := 11) sc_law.nd rfl (Or.inr rfl) (pd_of (pv_callU O__law_sheet (hr.mono (by decide)) rfl T.g__law_sheet F__law_sheet.kp hb6 (fun _ => .nil) hx (pad_cons (pd_var 8) (pad_cons (pd_var 4) pad_nil)) pkd_nil)))
  (zs_cons (z_set (i := 6) sc_law.nd rfl (Or.inl rfl) (pd_tup (pad_cons (pd_of (pv_methU0 (cid := 4) (pd_var 11) rfl T.cl_Sheet T.mt_Sheet_homes (by decide) O_Sheet_homes (hr.mono (by decide)) hb9 (fun _ => .nil) hx  pkd_nil)) (pad_cons (pd_of (pv_methU0 (cid := 4) (pd_var 11) rfl T.cl_Sheet T.mt_Sheet_pieces (by decide) O_Sheet_pieces (hr.mono (by decide)) hb8 (fun _ => .nil) hx  pkd_nil)) pad_nil))))
  (zs_one (z_for (passes_of rfl) rfl (pid_sq (pd_fz (pl_lst (pad_cons pd_str (pad_cons (pd_cutS (pd_plus (pd_subs hu (pd_subs hu (pd_var 4) pd_int (fun _ _ => rfl)) pd_int (fun _ _ => rfl)) pd_str) pod_none (pod_some pd_int)) (pad_cons (pd_cutS (pd_plus (pd_subs hu (pd_var 3) pd_int (fun _ _ => rfl)) pd_str) pod_none (pod_some pd_int)) pad_nil)))))) (pgd_name (i := 9) sc_law.nd rfl (Or.inr rfl))
  (zs_cons (z_if (ptd_notInX ow passL (hr.mono (by decide)) (pd_var 9) (pd_var 3))
  (zs_cons (z_setO (i := 7) sc_law.nd rfl (Or.inl rfl) (pl_lst (pad_cons (pd_lamF (B := d__law_told) (k := 11) rfl T.g__law_told F__law_told (F__law_told.bindsN (fun _ _ _ _ _ _ us hl => match us, hl with | [_], _ => rfl)) sc__law_told rfl (by first | exact Or.inl rfl | exact Or.inr (Or.inl rfl)) rfl (fun cdv => G__law_told _ _ cdv rfl rfl rfl rfl rfl) (cs_in hTB (.head _)) rfl (hr.mono (by decide)) (LamX.lamS_by (sc := defScope s_law) (by decide +kernel)) rfl (fun _ _ _ _ _ => rfl) (tab_in (hs := hsC) (xs := xsC) (.head _)) rfl (by decide) (fun A outer s H E f c' hr => by have hu := hu_of hr; have hu64 := hr.units; exact (pd_of (pv_methU (cid := 4) (pd_var 11) rfl T.cl_Sheet T.mt_Sheet_got (by decide) O_Sheet_got (hr.mono (by decide)) hb10 (fun _ => .nil) (fun σ => passAt (takes_of rfl rfl rfl rfl) σ) (pad_cons (pd_var 9) pad_nil) pkd_nil)))) pad_nil)))
  (zs_cons (z_expr (pd_append (pd_var 7) (pad_cons (pd_lamF (B := d__law_told) (k := 11) rfl T.g__law_told F__law_told (F__law_told.bindsN (fun _ _ _ _ _ _ us hl => match us, hl with | [_], _ => rfl)) sc__law_told rfl (by first | exact Or.inl rfl | exact Or.inr (Or.inl rfl)) rfl (fun cdv => G__law_told _ _ cdv rfl rfl rfl rfl rfl) (cs_in hTB (.head _)) rfl (hr.mono (by decide)) (LamX.lamS_by (sc := defScope s_law) (by decide +kernel)) rfl (fun _ _ _ _ _ => rfl) (tab_in (hs := hsC) (xs := xsC) (.head _)) rfl (by decide) (fun A outer s H E f c' hr => by have hu := hu_of hr; have hu64 := hr.units; exact (pd_of (pv_methU (cid := 4) (pd_var 11) rfl T.cl_Sheet T.mt_Sheet_waste (by decide) O_Sheet_waste (hr.mono (by decide)) hb11 (fun _ => .nil) (fun σ => passAt (takes_of rfl rfl rfl rfl) σ) (pad_cons (pd_var 9) pad_nil) pkd_nil)))) pad_nil)))
  (zs_cons (z_expr (pd_append (pd_var 7) (pad_cons (pd_lamF (B := d__law_told) (k := 11) rfl T.g__law_told F__law_told (F__law_told.bindsN (fun _ _ _ _ _ _ us hl => match us, hl with | [_], _ => rfl)) sc__law_told rfl (by first | exact Or.inl rfl | exact Or.inr (Or.inl rfl)) rfl (fun cdv => G__law_told _ _ cdv rfl rfl rfl rfl rfl) (cs_in hTB (.head _)) rfl (hr.mono (by decide)) (LamX.lamS_by (sc := defScope s_law) (by decide +kernel)) rfl (fun _ _ _ _ _ => rfl) (tab_in (hs := hsC) (xs := xsC) (.head _)) rfl (by decide) (fun A outer s H E f c' hr => by have hu := hu_of hr; have hu64 := hr.units; exact (pd_of (pv_methU (cid := 4) (pd_var 11) rfl T.cl_Sheet T.mt_Sheet_made_by (by decide) O_Sheet_made_by (hr.mono (by decide)) hb12 (fun _ => .nil) (fun σ => passAt (takes_of rfl rfl rfl rfl) σ) (pad_cons (pd_var 9) pad_nil) pkd_nil)))) pad_nil)))
  (zs_one (z_if (ptd_neX ow passL (hr.mono (by decide)) (pd_var 7) (pd_times (pd_fz (pl_lst (pad_cons (pd_tup (pad_cons pd_str (pad_cons (pd_var 9) pad_nil))) pad_nil))) pd_int))
  (zs_one (z_ret pd_bl))
  zs_nil)))))
  zs_nil)
  (zs_one (z_if (ptd_notInX ow passL (hr.mono (by decide)) (pd_var 9) (pd_subs hu (pd_var 6) pd_int (fun _ _ => rfl)))
  (zs_cons (z_setO (i := 7) sc_law.nd rfl (Or.inl rfl) (pl_lst (pad_cons (pd_lamF (B := d__law_told) (k := 11) rfl T.g__law_told F__law_told (F__law_told.bindsN (fun _ _ _ _ _ _ us hl => match us, hl with | [_], _ => rfl)) sc__law_told rfl (by first | exact Or.inl rfl | exact Or.inr (Or.inl rfl)) rfl (fun cdv => G__law_told _ _ cdv rfl rfl rfl rfl rfl) (cs_in hTB (.head _)) rfl (hr.mono (by decide)) (LamX.lamS_by (sc := defScope s_law) (by decide +kernel)) rfl (fun _ _ _ _ _ => rfl) (tab_in (hs := hsC) (xs := xsC) (.head _)) rfl (by decide) (fun A outer s H E f c' hr => by have hu := hu_of hr; have hu64 := hr.units; exact (pd_of (pv_methU (cid := 4) (pd_var 11) rfl T.cl_Sheet T.mt_Sheet_yarn (by decide) O_Sheet_yarn (hr.mono (by decide)) hb13 (fun _ => .nil) (fun σ => passAt (takes_of rfl rfl rfl rfl) σ) (pad_cons (pd_var 9) pad_nil) pkd_nil)))) pad_nil)))
  (zs_cons (z_expr (pd_append (pd_var 7) (pad_cons (pd_lamF (B := d__law_told) (k := 11) rfl T.g__law_told F__law_told (F__law_told.bindsN (fun _ _ _ _ _ _ us hl => match us, hl with | [_], _ => rfl)) sc__law_told rfl (by first | exact Or.inl rfl | exact Or.inr (Or.inl rfl)) rfl (fun cdv => G__law_told _ _ cdv rfl rfl rfl rfl rfl) (cs_in hTB (.head _)) rfl (hr.mono (by decide)) (LamX.lamS_by (sc := defScope s_law) (by decide +kernel)) rfl (fun _ _ _ _ _ => rfl) (tab_in (hs := hsC) (xs := xsC) (.head _)) rfl (by decide) (fun A outer s H E f c' hr => by have hu := hu_of hr; have hu64 := hr.units; exact (pd_of (pv_methU (cid := 4) (pd_var 11) rfl T.cl_Sheet T.mt_Sheet_makers (by decide) O_Sheet_makers (hr.mono (by decide)) hb14 (fun _ => .nil) (fun σ => passAt (takes_of rfl rfl rfl rfl) σ) (pad_cons (pd_var 9) pad_nil) pkd_nil)))) pad_nil)))
  (zs_one (z_if (PWD.pt (pwd_or (ptd_neX ow passL (hr.mono (by decide)) (pd_var 7) (pd_times (pd_fz (pl_lst (pad_cons (pd_tup (pad_cons pd_str (pad_cons (pd_var 9) pad_nil))) pad_nil))) pd_int)) (pwd_or1 (ptd_neX ow passL (hr.mono (by decide)) (pd_tup (pad_cons (pd_of (pv_methU0 (cid := 4) (pd_var 11) rfl T.cl_Sheet T.mt_Sheet_homes (by decide) O_Sheet_homes (hr.mono (by decide)) hb9 (fun _ => .nil) hx  pkd_nil)) (pad_cons (pd_of (pv_methU0 (cid := 4) (pd_var 11) rfl T.cl_Sheet T.mt_Sheet_pieces (by decide) O_Sheet_pieces (hr.mono (by decide)) hb8 (fun _ => .nil) hx  pkd_nil)) pad_nil))) (pd_var 6)))))
  (zs_one (z_ret pd_bl))
  zs_nil))))
  zs_nil))))))))))))))
  (zs_one (z_ret pd_bl))))
end
end Y
open PySem PySem.W PySem.Calls PyProof.Rows
theorem PySem.Challenge.cw_yarnback_k08_sheets_refused_holds : PySem.Challenge.rw_yarnback_k08_sheets_refused.Holds := by
  w_on; o_law
  refine HandSHeadRun.head_any (r := OpenLaw.row PySem.Challenge.rw_yarnback_k08_sheets_refused) (q := view (OpenLaw.row PySem.Challenge.rw_yarnback_k08_sheets_refused).prog [21]) (H := Y.hkY) (ob := Y.obY) (M := 6000) (loose := Y.looseY) (d := HandSHeadRun.topDef (OpenLaw.row PySem.Challenge.rw_yarnback_k08_sheets_refused).prog 21) (kwd := []) Y.obY_eq
    (by kernel_rfl) (fun s => by kernel_rfl) Y.runY (by kernel_rfl) (by kernel_rfl) (by kernel_rfl) (by rfl) (by first | assumption | decide +kernel) (by decide +kernel) ⟨rfl, rfl, rfl, rfl, rfl, by decide +kernel⟩ ?hw ?hc
  case hw => w_witness2
  case hc =>
    refine Y.walk_ofYT Y.tsC (l := PySem.Challenge.rw_yarnback_k08_sheets_refused) (n := 63) (k := 17) (x := "script") (CX := fun w => L2.CX PySem.Challenge.rw_yarnback_k08_sheets_refused.prog w) rfl (by decide) (by kernel_rfl) ⟨rfl, by decide, by decide⟩ (by decide +kernel) ?F (fun w H s e s' h => Y.noCX w H s e s' h)
    intro w mg fa h YY G hmg0
    obtain ⟨K, KX, c⟩ := YY
    have hmg : mg ("law" : PySem.Str) = some (.ref fa) := by
      have e : (HandSHeadRun.topDef (OpenLaw.row PySem.Challenge.rw_yarnback_k08_sheets_refused).prog 21).name = ("law" : PySem.Str) := by kernel_rfl
      rw [← e]
      exact hmg0
    have T := Y.tx_of KX G c
    have ef := hmg.symm.trans T.g_law
    cases ef
    obtain ⟨fd, F⟩ := T.f_law
    have hb := L2.FunD.bindsA (ps := ["script"]) F fun _ _ _ _ _ _ us hl => match us, hl with | [_], _ => rfl
    refine ⟨K, fd, Y.spOf K (Y.zx K) Y.c_law, KX, T.tb, fun s v => hb s [v] rfl, fun H a ns hl hT hS => Y.law_spT rfl T.tb hT hl hS, fun base _ _ hTB => ?_⟩
    obtain ⟨fd', F', O⟩ := Y.ok_law PySem.Challenge.rw_yarnback_k08_sheets_refused.prog w base T hTB
    have efd := Y.fd_uniq F F'
    subst efd
    exact O
/-! ## no more -/

