import PyProof.Rows.All
import Wide.All
import OpenK.AllK
import Wide.FinOn
import HandS.ForMost
import HandS.HeadHook1
import HandS.TupAny
import HandS.Deep
import HandS.Wide
import HandS.TupMul
import HandS.Conv
import HandS.TupLe
import HandS.Flow
import HandS.IsInst
import HandS.RaiseMore
import HandS.Strs
import HandS.Defaults
import KE.KUnpackStar
import HandS.Text
import HandS.FStr
import HandS.StrSplit
import HandS.StrMore
import HandS.Ends
import HandS.Words
import HandS.HeadEnd
import KE.KStateDown
import HandS.WordsExc
import HandS.Head0
import HandS.Head1
import HandS.Head2
import HandS.HeadHook2
import KE.GoesZip
import KE.GoesMore
import HandS.Zip
import HandS.Flt
import PyProof.Rows.StrFirst
import HandS.WordsDict
import HandS.More
import KE.SortData
import HandS.DictComp
import HandS.SetKeys
import HandS.SetBool
import HandS.Style
import HandS.SortKw
import KE.DatumOrd
import HandS.Set
import HandS.SortInts
import HandS.SetFor
import PyProof.ListRange
import PyProof.NeKinds
import PyProof.ListStr
import PyProof.P3In
import KE.KDictCopyH
import KE.KDictDisplayH
import KE.KDictPairs
import HandS.ExcInit
import HandS.ExcCtx
import HandS.ExcIs
import HandS.ExcField
import HandS.ClsMeth
import PyProof.Rows.FactsExc_KeyError
import KE.KExcIs
import PySem.Challenge.RW_smallreaders_k06_parts_numbered
set_option Elab.async false
set_option linter.all false
set_option maxRecDepth 100000
set_option maxHeartbeats 4000000
namespace DL
open PySem L2
abbrev D := PyData
abbrev Fg := PySem.W.Frag
def Sub (F H : Hp) : Prop := ∀ a o, F a = some o → H a = some o
theorem Sub.refl (F : Hp) : Sub F F := fun _ _ h => h
theorem Sub.trans {F G H : Hp} (a : Sub F G) (b : Sub G H) : Sub F H := fun x o h => b x o (a x o h)
theorem Sub.new {F : Hp} {p : Addr} {o : HO} (h : F p = none) : Sub F (upd F p o) := fun a u e => by
  rw [upd_ne (ne_of_none e h)]; exact e
theorem Sub.rd {F H : Hp} (s : Sub F H) {a : Addr} {u : HO} (h : Rd F a u) : Rd H a u := by
  rcases h with h | ⟨o, h⟩
  · exact Or.inl (s a _ h)
  · exact Or.inr ⟨o, s a _ h⟩
theorem Sub.sqL {K : Fg} {F H : Hp} (s : Sub F H) {a : Addr} {xs : List V} (h : SqL K F a xs) : SqL K H a xs := by
  rcases h with h | h
  · exact Or.inl (s.rd h)
  · exact Or.inr h
theorem Sub.sqT {K : Fg} {F H : Hp} (s : Sub F H) {a : Addr} {xs : List V} (h : SqT K F a xs) : SqT K H a xs := by
  rcases h with h | h
  · exact Or.inl (s.rd h)
  · exact Or.inr h
def kD : Key → D
  | .inl i => .int i
  | .inr s => .str s
def ktD (k : List Key) : D := .tuple (k.map kD)
/-- the keys and values of a dict that stands at a -/
def DOf (F : Hp) (a : Addr) (ks : List D) (vs : List V) : Prop :=
  (∃ kvs, F a = some (.dK kvs) ∧ ks = kvs.map (fun p => kD p.1) ∧ vs = kvs.map (·.2)) ∨
  (∃ kvs, F a = some (.dT kvs) ∧ ks = kvs.map (fun p => ktD p.1) ∧ vs = kvs.map (·.2))
theorem DOf.mono {F H : Hp} (s : Sub F H) {a : Addr} {ks : List D} {vs : List V} (h : DOf F a ks vs) : DOf H a ks vs := by
  rcases h with ⟨k, e, q⟩ | ⟨k, e, q⟩
  · exact .inl ⟨k, s _ _ e, q⟩
  · exact .inr ⟨k, s _ _ e, q⟩
def noInt : D → Bool
  | .int _ => false
  | _ => true
/-- a tuple: of F, or one of the module's own that has no whole number -/
def noIntV : V → Bool
  | .int _ => false
  | _ => true
/-- a new tuple: one without a whole number is known to the object -/
def tupO (o : Obj) (xs : List V) : HO := match xs.all noIntV with
  | true => .frz o (.tup xs)
  | false => .tup xs
/-- a tuple whose object has no dict -/
def SqZ (K : Fg) (F : Hp) (a : Addr) (xs : List V) : Prop :=
  (∃ o, F a = some (.frz o (.tup xs)) ∧ o.dict = none) ∨ ∃ (o : Obj) (its : Array Value) (n : Nat), K.lookup a = some o ∧ o.cls = .type "tuple" ∧ o.dict = none ∧ o.data = .seq its n ∧ its.size ≤ sizeLine ∧ Vals xs its.toList
theorem SqZ.sqT {K : Fg} {F : Hp} {a : Addr} {xs : List V} (h : SqZ K F a xs) : SqT K F a xs := by
  rcases h with ⟨o, h, _⟩ | ⟨o, its, n, h1, h2, _, h3⟩
  · exact .inl (.inr ⟨o, h⟩)
  · exact .inr ⟨o, its, n, h1, h2, h3⟩
theorem SqZ.mono {K : Fg} {F H : Hp} {a : Addr} {xs : List V} (h : SqZ K F a xs) (s : Sub F H) : SqZ K H a xs := by
  rcases h with ⟨o, h, q⟩ | h
  · exact .inl ⟨o, s _ _ h, q⟩
  · exact .inr h
def TpOk (K : Fg) (F : Hp) (a : Addr) (xs : List V) (ds : List D) : Prop := (F a = some (.tup xs) ∧ ds.all noInt = false) ∨ (SqZ K F a xs ∧ ds.all noInt = true)
theorem TpOk.sqT {K : Fg} {F : Hp} {a : Addr} {xs : List V} {ds : List D} (h : TpOk K F a xs ds) : SqT K F a xs := by
  rcases h with h | h
  · exact .inl (.inl h.1)
  · exact h.1.sqT
theorem TpOk.mono {K : Fg} {F H : Hp} {a : Addr} {xs : List V} {ds : List D} (h : TpOk K F a xs ds) (s : Sub F H) : TpOk K H a xs ds := by
  rcases h with h | h
  · exact .inl ⟨s _ _ h.1, h.2⟩
  · exact .inr ⟨h.1.mono s, h.2⟩
mutual
/-- v is the datum d, all of it in F -/
inductive Rp (K : Fg) (F : Hp) : V → D → Prop
  | non : Rp K F .non .none
  | bl (b : Bool) : Rp K F (.bl b) (.bool b)
  | int (i : Int) : Rp K F (.int i) (.int i)
  | str (x : Str) : Rp K F (.str x) (.str x)
  | lst {a : Addr} {xs : List V} {ds : List D} : Rd F a (.lst xs) → RpA K F xs ds → Rp K F (.ref a) (.list ds)
  | tup {a : Addr} {xs : List V} {ds : List D} : TpOk K F a xs ds → RpA K F xs ds → Rp K F (.ref a) (.tuple ds)
  | dct {a : Addr} {ks : List D} {vs : List V} {ws : List D} {ds : List (D × D)} : DOf F a ks vs → RpA K F vs ws → ds.map (·.1) = ks → ds.map (·.2) = ws → Rp K F (.ref a) (.dict ds)
inductive RpA (K : Fg) (F : Hp) : List V → List D → Prop
  | nil : RpA K F [] []
  | cons {v : V} {vs : List V} {d : D} {ds : List D} : Rp K F v d → RpA K F vs ds → RpA K F (v :: vs) (d :: ds)
end
mutual
theorem Rp.mono {K : Fg} {F H : Hp} (s : Sub F H) {v : V} {d : D} : Rp K F v d → Rp K H v d
  | .non => .non
  | .bl b => .bl b
  | .int i => .int i
  | .str x => .str x
  | .lst h r => .lst (s.rd h) (RpA.mono s r)
  | .tup h r => .tup (h.mono s) (RpA.mono s r)
  | .dct h r a b => .dct (h.mono s) (RpA.mono s r) a b
theorem RpA.mono {K : Fg} {F H : Hp} (s : Sub F H) {v : List V} {d : List D} : RpA K F v d → RpA K H v d
  | .nil => .nil
  | .cons h r => .cons (Rp.mono s h) (RpA.mono s r)
end
theorem RpA.length {K : Fg} {F : Hp} : ∀ {vs : List V} {ds : List D}, RpA K F vs ds → vs.length = ds.length
  | _, _, .nil => rfl
  | _, _, .cons _ r => by rw [List.length_cons, List.length_cons, RpA.length r]
theorem RpA.get {K : Fg} {F : Hp} : ∀ {vs : List V} {ds : List D} {i : Nat} {v : V}, RpA K F vs ds → vs[i]? = some v → ∃ d, ds[i]? = some d ∧ Rp K F v d
  | _, _, _, _, .nil, e => by simp at e
  | _, _, 0, _, .cons h _, e => by simp at e; subst e; exact ⟨_, rfl, h⟩
  | _, _, i + 1, v, .cons _ r, e => by
    obtain ⟨d, e1, h⟩ := RpA.get (i := i) (v := v) r (by simpa using e)
    exact ⟨d, by simpa using e1, h⟩
theorem RpA.getD {K : Fg} {F : Hp} : ∀ {vs : List V} {ds : List D} {i : Nat} {d : D}, RpA K F vs ds → ds[i]? = some d → ∃ v, vs[i]? = some v ∧ Rp K F v d
  | _, _, _, _, .nil, e => by simp at e
  | _, _, 0, _, .cons h _, e => by simp at e; subst e; exact ⟨_, rfl, h⟩
  | _, _, i + 1, d, .cons _ r, e => by
    obtain ⟨v, e1, h⟩ := RpA.getD (i := i) (d := d) r (by simpa using e)
    exact ⟨v, by simpa using e1, h⟩
theorem RpA.append {K : Fg} {F : Hp} : ∀ {vs ws : List V} {ds es : List D}, RpA K F vs ds → RpA K F ws es → RpA K F (vs ++ ws) (ds ++ es)
  | _, _, _, _, .nil, s => s
  | _, _, _, _, .cons h r, s => .cons h (RpA.append r s)
theorem RpA.take {K : Fg} {F : Hp} : ∀ {vs : List V} {ds : List D} (n : Nat), RpA K F vs ds → RpA K F (vs.take n) (ds.take n)
  | _, _, 0, _ => .nil
  | _, _, _ + 1, .nil => .nil
  | _, _, n + 1, .cons h r => .cons h (RpA.take n r)
theorem RpA.drop {K : Fg} {F : Hp} : ∀ {vs : List V} {ds : List D} (n : Nat), RpA K F vs ds → RpA K F (vs.drop n) (ds.drop n)
  | _, _, 0, r => r
  | _, _, _ + 1, .nil => .nil
  | _, _, n + 1, .cons _ r => RpA.drop n r
theorem RpA.set {K : Fg} {F : Hp} {v : V} {d : D} (h : Rp K F v d) : ∀ {vs : List V} {ds : List D} (n : Nat), RpA K F vs ds → RpA K F (vs.set n v) (ds.set n d)
  | _, _, _, .nil => .nil
  | _, _, 0, .cons _ r => .cons h r
  | _, _, n + 1, .cons q r => .cons q (RpA.set h n r)
theorem Rp.noInt {K : Fg} {F : Hp} {v : V} {d : D} (h : Rp K F v d) : noIntV v = DL.noInt d := by cases h <;> rfl
theorem RpA.noInt {K : Fg} {F : Hp} : ∀ {vs : List V} {ds : List D}, RpA K F vs ds → vs.all noIntV = ds.all DL.noInt
  | _, _, .nil => rfl
  | _, _, .cons h r => by rw [List.all_cons, List.all_cons, h.noInt, RpA.noInt r]
/-- a new tuple is one -/
theorem TpOk.new {K : Fg} {F : Hp} {p : Addr} {o : Obj} {xs : List V} {ds : List D} (hd : o.dict = none) (h : RpA K F xs ds) : TpOk K (upd F p (tupO o xs)) p xs ds := by
  have e := h.noInt
  unfold tupO
  cases q : ds.all DL.noInt with
  | true =>
    rw [q] at e; rw [e]
    exact .inr ⟨.inl ⟨o, upd_same, hd⟩, q⟩
  | false =>
    rw [q] at e; rw [e]
    exact .inl ⟨upd_same, q⟩
/-- what a box holds -/
inductive MB where
  | L (ds : List D) | K (kvs : List (D × D)) | T (kvs : List (D × D))
def MB.toD : MB → D
  | .L ds => .list ds
  | .K kvs => .dict kvs
  | .T kvs => .dict kvs
/-- the object o is what the box holds, its parts in F -/
inductive MO (K : Fg) (F : Hp) : HO → MB → Prop
  | L {xs : List V} {ds : List D} : RpA K F xs ds → MO K F (.lst xs) (.L ds)
  | K {kvs : List (Key × V)} {ds : List (D × D)} : ds.map (·.1) = kvs.map (fun p => kD p.1) → RpA K F (kvs.map (·.2)) (ds.map (·.2)) → MO K F (.dK kvs) (.K ds)
  | T {kvs : List (List Key × V)} {ds : List (D × D)} : ds.map (·.1) = kvs.map (fun p => ktD p.1) → RpA K F (kvs.map (·.2)) (ds.map (·.2)) → MO K F (.dT kvs) (.T ds)
theorem MO.mono {K : Fg} {F H : Hp} (s : Sub F H) {o : HO} {m : MB} (h : MO K F o m) : MO K H o m := by
  cases h with
  | L r => exact .L (r.mono s)
  | K e r => exact .K e (r.mono s)
  | T e r => exact .T e (r.mono s)
/-- an object that holds m, its parts in F, seen in H -/
theorem MO.rp {K : Fg} {F H : Hp} {o : HO} {m : MB} {p : Addr} (h : MO K F o m) (s : Sub F H) (e : H p = some o) : Rp K H (.ref p) m.toD := by
  cases h with
  | L r => exact .lst (.inl e) (r.mono s)
  | K q r => exact .dct (.inl ⟨_, e, rfl, rfl⟩) (r.mono s) q rfl
  | T q r => exact .dct (.inr ⟨_, e, rfl, rfl⟩) (r.mono s) q rfl
inductive X1 where
  | val (d : D) | adr (n : Nat) (a : Addr)
inductive Nd where
  | lst (xs : List X1) | dK (kvs : List (D × X1)) | dT (kvs : List (D × X1))
  | ins (C : Str) (dx : Addr) (fs : List (Str × X1)) | dead
abbrev Gh := List (Addr × Nd)
inductive XOk (K : Fg) (F : Hp) : V → X1 → Prop
  | val {v : V} {d : D} : Rp K F v d → XOk K F v (.val d)
  | adr {n : Nat} {a : Addr} : XOk K F (.ref a) (.adr n a)
inductive XsOk (K : Fg) (F : Hp) : List V → List X1 → Prop
  | nil : XsOk K F [] []
  | cons {v : V} {vs : List V} {x : X1} {xs : List X1} : XOk K F v x → XsOk K F vs xs → XsOk K F (v :: vs) (x :: xs)
theorem XOk.mono {K : Fg} {F H : Hp} (s : Sub F H) {v : V} {x : X1} (h : XOk K F v x) : XOk K H v x := by
  cases h with
  | val a => exact .val (a.mono s)
  | adr => exact .adr
theorem XsOk.mono {K : Fg} {F H : Hp} (s : Sub F H) {v : List V} {x : List X1} (h : XsOk K F v x) : XsOk K H v x := by
  induction h with
  | nil => exact .nil
  | cons a _ ih => exact .cons (a.mono s) ih
/-- the object o is what the node tells -/
inductive NO (K : Fg) (F : Hp) : HO → Nd → Prop
  | lst {vs : List V} {xs : List X1} : XsOk K F vs xs → NO K F (.lst vs) (.lst xs)
  | dK {kvs : List (Key × V)} {ds : List (D × X1)} : ds.map (·.1) = kvs.map (fun p => kD p.1) → XsOk K F (kvs.map (·.2)) (ds.map (·.2)) → NO K F (.dK kvs) (.dK ds)
  | dT {kvs : List (List Key × V)} {ds : List (D × X1)} : ds.map (·.1) = kvs.map (fun p => ktD p.1) → XsOk K F (kvs.map (·.2)) (ds.map (·.2)) → NO K F (.dT kvs) (.dT ds)
  | ins {C : Str} {dx : Addr} {fs : List (Str × V)} {gs : List (Str × X1)} : (gs.map (·.1)).Nodup → gs.map (·.1) = fs.map (·.1) → XsOk K F (fs.map (·.2)) (gs.map (·.2)) → NO K F (.ins (He.ga K C) dx fs) (.ins C dx gs)
theorem NO.mono {K : Fg} {F H : Hp} (s : Sub F H) {o : HO} {x : Nd} (h : NO K F o x) : NO K H o x := by
  cases h with
  | lst r => exact .lst (r.mono s)
  | dK e r => exact .dK e (r.mono s)
  | dT e r => exact .dT e (r.mono s)
  | ins n e r => exact .ins n e (r.mono s)
def fpN : Addr × Nd → List Addr
  | (a, .ins _ dx _) => [a, dx]
  | (_, .dead) => []
  | (a, .lst _) => [a]
  | (a, .dK _) => [a]
  | (a, .dT _) => [a]
def fp (G : Gh) : List Addr := G.flatMap fpN
/-- a node stands in the heap -/
def NdOk (K : Fg) (F H : Hp) (x : Addr × Nd) : Prop := x.2 = .dead ∨ ((∃ o, H x.1 = some o ∧ NO K F o x.2) ∧ ∀ C dx fs, x.2 = .ins C dx fs → H dx = some (.own x.1))
inductive Ob where
  | scr (ns : List Int) | exc (C : Str) (fs : List (Str × D)) | tab (kvs : List (Str × Str)) | fn (x : Str)
/-- the exception at a: its class, its dict -/
def ExcO (a C : Addr) (d : Option Addr) : HO := .ext fun h => ∃ (oe : Obj) (vs : Array Value), h.get? a = some oe ∧ oe.cls = .ref C ∧ oe.dict = d ∧ oe.data = .fields vs
inductive ObOk (K : Fg) (F : Hp) : V → Ob → Prop
  | scr {a : Addr} {ns : List Int} : SqL K F a (ns.map V.int) → ObOk K F (.ref a) (.scr ns)
  | exc0 {a : Addr} {C : Str} : F a = some (ExcO a (He.ga K C) none) → ObOk K F (.ref a) (.exc C [])
  | exc {a dx : Addr} {C : Str} {gs : List (Str × V)} {fs : List (Str × D)} : F a = some (ExcO a (He.ga K C) (some dx)) → F dx = some (.xd gs) → fs.map (·.1) = gs.map (·.1) → RpA K F (gs.map (·.2)) (fs.map (·.2)) → ObOk K F (.ref a) (.exc C fs)
  | tab {a : Addr} {kvs : List (Str × Str)} : F a = some (.dK (kvs.map fun p => (.inr p.1, .ref (He.ga K p.2)))) → ObOk K F (.ref a) (.tab kvs)
  | fn {x : Str} : ObOk K F (.ref (He.ga K x)) (.fn x)
theorem ObOk.mono {K : Fg} {F H : Hp} (s : Sub F H) {v : V} {o : Ob} (h : ObOk K F v o) : ObOk K H v o := by
  cases h with
  | scr a => exact .scr (s.sqL a)
  | exc0 a => exact .exc0 (s _ _ a)
  | exc a b c d => exact .exc (s _ _ a) (s _ _ b) c (d.mono s)
  | tab a => exact .tab (s _ _ a)
  | fn => exact .fn
inductive Ce where
  | val (d : D) | box (prm : Bool) (m : MB) | ob (o : Ob) | adr (n : Nat) (a : Addr) | gh (G : Gh)
abbrev Ce.scr (ns : List Int) : Ce := .ob (.scr ns)
abbrev Rho := List (Option Ce)
/-- what an expression gives: a datum, a new object that nobody else holds, a reference to the box of slot i -/
inductive R where
  | val (d : D) | own (m : MB) | bor (i : Nat) | ob (o : Ob) | adr (n : Nat) (a : Addr)
abbrev R.scr (ns : List Int) : R := .ob (.scr ns)
/-- a frame's entry: F0 what stood frozen, P what is not ours and stays as it is, old: what stood -/
structure En where
  F0 : Hp
  P : Hp
  old : Addr → Prop
  prm : Nat → Option Addr
  /-- nodes that were handed in -/
  gp : Addr → Prop
structure GhOk (K : Fg) (e : En) (F H : Hp) (G : Gh) : Prop where
  nd : (fp G).Nodup
  at' : ∀ x ∈ G, NdOk K F H x
  fr : ∀ p ∈ fp G, F p = none ∧ e.P p = none ∧ (e.old p → e.gp p) ∧ H p ≠ none
theorem mem_fp {G : Gh} {x : Addr × Nd} (h : x ∈ G) (q : x.2 ≠ .dead) : x.1 ∈ fp G := by
  refine List.mem_flatMap.mpr ⟨x, h, ?_⟩
  obtain ⟨a, n⟩ := x
  cases n <;> first | exact List.mem_cons_self | exact absurd rfl q
theorem mem_fpi {G : Gh} {a dx : Addr} {C : Str} {fs : List (Str × X1)} (h : (a, Nd.ins C dx fs) ∈ G) : dx ∈ fp G :=
  List.mem_flatMap.mpr ⟨_, h, List.mem_cons_of_mem _ List.mem_cons_self⟩
theorem MO.ntup {K : Fg} {F : Hp} {o : HO} {m : MB} (h : MO K F o m) (xs : List V) : o ≠ .tup xs := by
  cases h <;> (intro z; cases z)
theorem NO.ntup {K : Fg} {F : Hp} {o : HO} {n : Nd} (h : NO K F o n) (xs : List V) : o ≠ .tup xs := by
  cases h <;> (intro z; cases z)
theorem GhOk.ntup {K : Fg} {e : En} {F H : Hp} {G : Gh} (h : GhOk K e F H G) {p : Addr} (hp : p ∈ fp G) (xs : List V) : H p ≠ some (.tup xs) := fun z => by
  obtain ⟨x, hx, hq⟩ := List.mem_flatMap.mp hp
  obtain ⟨a, n⟩ := x
  have hn := h.at' _ hx
  have go : ∀ {o : HO}, H a = some o → NO K F o n → H a ≠ some (.tup xs) := fun h1 h2 y => by
    rw [h1] at y
    exact h2.ntup xs (Option.some.inj y)
  rcases hn with q | ⟨⟨o, g1, g2⟩, g3⟩
  · simp only at q
    subst q
    simp [fpN] at hq
  · cases n with
    | dead => simp [fpN] at hq
    | lst ws =>
      simp [fpN] at hq
      subst hq
      exact go g1 g2 z
    | dK ws =>
      simp [fpN] at hq
      subst hq
      exact go g1 g2 z
    | dT ws =>
      simp [fpN] at hq
      subst hq
      exact go g1 g2 z
    | ins C dx fs =>
      simp [fpN] at hq
      rcases hq with rfl | rfl
      · exact go g1 g2 z
      · rw [g3 C _ fs rfl] at z; cases z
theorem GhOk.move {K : Fg} {e e' : En} {F F' H H' : Hp} {G : Gh} (h : GhOk K e F H G) (hF : Sub F F') (hH : ∀ p ∈ fp G, ∀ o, H p = some o → H' p = some o) (hf : ∀ p ∈ fp G, F' p = none) (he : ∀ p ∈ fp G, e'.P p = none ∧ (e'.old p → e'.gp p)) : GhOk K e' F' H' G where
  nd := h.nd
  at' := fun x hx => by
    rcases h.at' x hx with q | ⟨⟨o, g1, g2⟩, g3⟩
    · exact .inl q
    · by_cases z : x.2 = .dead
      · exact .inl z
      · refine .inr ⟨⟨o, hH _ (mem_fp hx z) _ g1, g2.mono hF⟩, fun C dx fs q => ?_⟩
        obtain ⟨a, n⟩ := x
        cases q
        exact hH _ (mem_fpi hx) _ (g3 C dx fs rfl)
  fr := fun p hp => by
    obtain ⟨_, _, _, h4⟩ := h.fr p hp
    refine ⟨hf p hp, (he p hp).1, (he p hp).2, ?_⟩
    cases q : H p with
    | none => exact absurd q h4
    | some o => rw [hH p hp o q]; simp
structure Ok (K : Fg) (e : En) (F : Hp) (r : Rho) (s : L2.St) (H : Hp) : Prop where
  len : r.length = s.length
  sub : Sub F H
  f0 : Sub e.F0 F
  prot : Sub e.P H
  new : ∀ a o, F a = some o → e.F0 a = some o ∨ e.P a = none ∨ ∃ xs, o = .tup xs
  dom : ∀ a, e.old a → H a ≠ none
  slot : ∀ (i : Nat) d, r[i]? = some (some (Ce.val d)) → ∃ v, s[i]? = some (some v) ∧ Rp K F v d
  box : ∀ (i : Nat) b m, r[i]? = some (some (Ce.box b m)) → ∃ p o, s[i]? = some (some (V.ref p)) ∧ H p = some o ∧ MO K F o m ∧ F p = none ∧ e.P p = none ∧ (b = false → ¬ e.old p) ∧ (b = true → e.prm i = some p)
  ob : ∀ (i : Nat) o, r[i]? = some (some (Ce.ob o)) → ∃ v, s[i]? = some (some v) ∧ ObOk K F v o
  sep : ∀ (i j : Nat) p b m b' m', r[i]? = some (some (Ce.box b m)) → r[j]? = some (some (Ce.box b' m')) → s[i]? = some (some (V.ref p)) → s[j]? = some (some (V.ref p)) → i = j
  adr : ∀ (i : Nat) n a, r[i]? = some (some (Ce.adr n a)) → s[i]? = some (some (V.ref a))
  gh : ∀ (i : Nat) G, r[i]? = some (some (Ce.gh G)) → GhOk K e F H G ∧ (∀ (j : Nat) b m p, r[j]? = some (some (Ce.box b m)) → s[j]? = some (some (V.ref p)) → p ∉ fp G) ∧ ∀ (j : Nat) G', r[j]? = some (some (Ce.gh G')) → j = i
  gpF : ∀ p, e.gp p → (∀ o, F p = some o → ∃ xs, o = .tup xs) ∧ e.old p
/-- p is no box's address and no node's -/
def NB (r : Rho) (s : L2.St) (p : Addr) : Prop := (∀ (i : Nat) b m', r[i]? = some (some (Ce.box b m')) → s[i]? ≠ some (some (V.ref p))) ∧ ∀ (i : Nat) G, r[i]? = some (some (Ce.gh G)) → p ∉ fp G
/-- a value is what an expression gave -/
inductive RR (K : Fg) (e : En) (F : Hp) (r : Rho) (s : L2.St) (H : Hp) : R → V → Prop
  | val {v : V} {d : D} : Rp K F v d → RR K e F r s H (.val d) v
  | own {p : Addr} {o : HO} {m : MB} : H p = some o → MO K F o m → F p = none → e.P p = none → ¬ e.old p → NB r s p → RR K e F r s H (.own m) (.ref p)
  | bor {i : Nat} {v : V} : s[i]? = some (some v) → (∃ b m, r[i]? = some (some (Ce.box b m))) → RR K e F r s H (.bor i) v
  | ob {v : V} {o : Ob} : ObOk K F v o → RR K e F r s H (.ob o) v
  | adr {n : Nat} {a : Addr} : RR K e F r s H (.adr n a) (.ref a)
/-- a wish about what an expression gives -/
abbrev Po := R → Rho → Prop
/-- what an expression does to data -/
abbrev ME := Rho → Po → Prop
def T (K : Fg) (e : En) (m : ME) : TE := fun s H Q => ∃ F r, Ok K e F r s H ∧ ∃ P : Po, m r P ∧ ∀ x r' v F' H', P x r' → Ok K e F' r' s H' → Sub F F' → RR K e F' r' s H' x v → Q v H'
def DE (X : Cx) (a : Expr) (m : ME) : Prop := ∀ e, PE X a (T X.K e m)
theorem PE.imp {X : Cx} {a : Expr} {t u : TE} (h : PE X a t) (i : ∀ s H Q, u s H Q → t s H Q) : PE X a u := ⟨fun pins s σ H Q I q => h.run pins s σ H Q I (i _ _ _ q)⟩
end DL
namespace DL
open PySem L2
section
variable {K : Fg} {e : En} {F : Hp} {r : Rho} {s : L2.St} {H : Hp} {p : Addr} {o : HO}
theorem Ok.free (k : Ok K e F r s H) (h : H p = none) : F p = none ∧ e.P p = none ∧ ¬ e.old p := by
  refine ⟨?_, ?_, fun z => k.dom p z h⟩
  · cases q : F p with
    | none => rfl
    | some u => rw [k.sub p u q] at h; cases h
  · cases q : e.P p with
    | none => rfl
    | some u => rw [k.prot p u q] at h; cases h
/-- a new object, not frozen -/
theorem Ok.alloc (k : Ok K e F r s H) (h : H p = none) : Ok K e F r s (upd H p o) where
  len := k.len
  sub := k.sub.trans (Sub.new h)
  f0 := k.f0
  prot := k.prot.trans (Sub.new h)
  new := k.new
  dom := fun a z => by
    by_cases q : a = p
    · subst q; rw [upd_same]; simp
    · rw [upd_ne q]; exact k.dom a z
  slot := k.slot
  box := fun i b m z => by
    obtain ⟨q, u, h1, h2, h3⟩ := k.box i b m z
    exact ⟨q, u, h1, Sub.new h q u h2, h3⟩
  ob := k.ob
  sep := k.sep
  adr := k.adr
  gh := fun i G z => by
    obtain ⟨g1, g2, g3⟩ := k.gh i G z
    exact ⟨g1.move (Sub.refl F) (fun q _ u w => Sub.new h q u w) (fun q w => (g1.fr q w).1) fun q w => ⟨(g1.fr q w).2.1, (g1.fr q w).2.2.1⟩, g2, g3⟩
  gpF := k.gpF
/-- an object that is no box's becomes frozen -/
theorem Ok.freeze (k : Ok K e F r s H) (h : H p = some o) (hF : F p = none) (hP : e.P p = none) (ho : ¬ e.old p) (hb : NB r s p) : Ok K e (upd F p o) r s H where
  len := k.len
  sub := fun a u q => by
    by_cases z : a = p
    · subst z; rw [upd_same] at q; cases q; exact h
    · rw [upd_ne z] at q; exact k.sub a u q
  f0 := k.f0.trans (Sub.new hF)
  prot := k.prot
  new := fun a u q => by
    by_cases z : a = p
    · subst z; exact .inr (.inl hP)
    · rw [upd_ne z] at q; exact k.new a u q
  dom := k.dom
  slot := fun i d z => by
    obtain ⟨v, h1, h2⟩ := k.slot i d z
    exact ⟨v, h1, h2.mono (Sub.new hF)⟩
  box := fun i b m z => by
    obtain ⟨q, u, h1, h2, h3, h4, h5⟩ := k.box i b m z
    have ne : q ≠ p := fun y => by subst y; exact hb.1 i b m z h1
    exact ⟨q, u, h1, h2, h3.mono (Sub.new hF), by rw [upd_ne ne]; exact h4, h5⟩
  ob := fun i ns z => by
    obtain ⟨a, g1, g2⟩ := k.ob i ns z
    exact ⟨a, g1, g2.mono (Sub.new hF)⟩
  sep := k.sep
  adr := k.adr
  gh := fun i G z => by
    obtain ⟨g1, g2, g3⟩ := k.gh i G z
    refine ⟨g1.move (Sub.new hF) (fun q _ u w => w) (fun q w => ?_) fun q w => ⟨(g1.fr q w).2.1, (g1.fr q w).2.2.1⟩, g2, g3⟩
    rw [upd_ne (fun y => by subst y; exact hb.2 i G z w)]
    exact (g1.fr q w).1
  gpF := fun q w => by
    rw [upd_ne (fun y => by subst y; exact ho (k.gpF q w).2)]
    exact k.gpF q w
theorem Ok.nobox (k : Ok K e F r s H) (h : H p = none) : NB r s p := by
  refine ⟨fun i b m z y => ?_, fun i G z w => ((k.gh i G z).1.fr p w).2.2.2 h⟩
  obtain ⟨q, u, h1, h2, _⟩ := k.box i b m z
  rw [y] at h1; cases h1; rw [h] at h2; cases h2
/-- a new frozen object -/
theorem Ok.lay (k : Ok K e F r s H) (h : H p = none) : Ok K e (upd F p o) r s (upd H p o) :=
  (k.alloc h).freeze upd_same (k.free h).1 (k.free h).2.1 (k.free h).2.2 (k.nobox h)
end
def R.tmp : R → R
  | .val d => .val d
  | .own m => .val m.toD
  | .bor i => .bor i
  | .ob ns => .ob ns
  | .adr n a => .adr n a
/-- a datum as it is looked at -/
def look (r : Rho) : R → Option D
  | .val d => some d
  | .own m => some m.toD
  | .bor i => match r[i]? with
    | some (some (.box _ m)) => some m.toD
    | _ => none
  | .ob _ => none
  | .adr _ _ => none
inductive RT (K : Fg) (F : Hp) (s : L2.St) : R → V → Prop
  | val {v : V} {d : D} : Rp K F v d → RT K F s (.val d) v
  | bor {i : Nat} {v : V} : s[i]? = some (some v) → RT K F s (.bor i) v
  | ob {v : V} {o : Ob} : ObOk K F v o → RT K F s (.ob o) v
  | adr {n : Nat} {a : Addr} : RT K F s (.adr n a) (.ref a)
theorem RT.mono {K : Fg} {F F' : Hp} {s : L2.St} {x : R} {v : V} (h : RT K F s x v) (q : Sub F F') : RT K F' s x v := by
  cases h with
  | val a => exact .val (a.mono q)
  | bor a => exact .bor a
  | ob a => exact .ob (a.mono q)
  | adr => exact .adr
/-- v looks like d in H, its parts in F -/
inductive Lk (K : Fg) (F H : Hp) : V → D → Prop
  | rp {v : V} {d : D} : Rp K F v d → Lk K F H v d
  | mo {p : Addr} {o : HO} {m : MB} : H p = some o → MO K F o m → Lk K F H (.ref p) m.toD
theorem Lk.all {K : Fg} {F H : Hp} {v : V} {d : D} (h : Lk K F H v d) (q : Sub F H) : Rp K H v d := by
  cases h with
  | rp a => exact a.mono q
  | mo a b => exact b.rp q a
theorem RT.look {K : Fg} {e : En} {F : Hp} {r : Rho} {s : L2.St} {H : Hp} {x : R} {v : V} {d : D} (h : RT K F s x v) (k : Ok K e F r s H) (q : DL.look r x = some d) : Lk K F H v d := by
  cases h with
  | val a => cases q; exact .rp a
  | @bor i v a =>
    simp only [DL.look] at q
    split at q
    · rename_i z
      cases q
      obtain ⟨p, o, h1, h2, h3, _⟩ := k.box _ _ _ z
      rw [a] at h1; cases h1
      exact .mo h2 h3
    · cases q
  | ob _ => cases q
  | adr => cases q
def Tt (K : Fg) (e : En) (m : ME) : TE := fun s H Q => ∃ F r, Ok K e F r s H ∧ ∃ P : Po, m r P ∧ ∀ x r' v F' H', P x r' → Ok K e F' r' s H' → Sub F F' → RT K F' s x v → Q v H'
def mTmp (m : ME) : ME := fun r P => m r fun x r' => P x.tmp r'
theorem RR.tmp {K : Fg} {e : En} {F : Hp} {r : Rho} {s : L2.St} {H : Hp} {x : R} {v : V} (h : RR K e F r s H x v) (k : Ok K e F r s H) : ∃ F', Ok K e F' r s H ∧ Sub F F' ∧ RT K F' s x.tmp v := by
  cases h with
  | val a => exact ⟨F, k, Sub.refl F, .val a⟩
  | @own p o m h1 h2 h3 h4 h5 h6 =>
    have k' := k.freeze h1 h3 h4 h5 h6
    exact ⟨_, k', Sub.new h3, .val (h2.rp (Sub.new h3) upd_same)⟩
  | bor a b => exact ⟨F, k, Sub.refl F, .bor a⟩
  | ob a => exact ⟨F, k, Sub.refl F, .ob a⟩
  | adr => exact ⟨F, k, Sub.refl F, .adr⟩
theorem DE.tmp {X : Cx} {a : Expr} {m : ME} (h : DE X a m) (e : En) : PE X a (Tt X.K e (mTmp m)) :=
  PE.imp (h e) fun s H Q ⟨F, r, k, P, hm, hP⟩ => ⟨F, r, k, _, hm, fun x r' v F' H' hx k' q hr => by
    obtain ⟨F2, k2, q2, t⟩ := hr.tmp k'
    exact hP _ r' v F2 H' hx k2 (q.trans q2) t⟩
def onO {α : Type} (o : Option α) (K : α → Prop) : Prop := match o with
  | some a => K a
  | none => False
theorem onO.ex {α : Type} {o : Option α} {K : α → Prop} (h : onO o K) : ∃ a, o = some a ∧ K a := by
  cases o with
  | none => exact h.elim
  | some a => exact ⟨a, rfl, h⟩
def onP {α β : Type} (o : Option (α × β)) (K : α → β → Prop) : Prop := match o with
  | some (a, b) => K a b
  | none => False
theorem onP.ex {α β : Type} {o : Option (α × β)} {K : α → β → Prop} (h : onP o K) : ∃ a b, o = some (a, b) ∧ K a b := by
  cases o with
  | none => exact h.elim
  | some a => exact ⟨a.1, a.2, rfl, h⟩
/-- what is asked, what goes on -/
def rqB (b : Bool) (A : Prop) : Prop := match b with
  | true => A
  | false => False
theorem rqB.ex {b : Bool} {A : Prop} (h : rqB b A) : b = true ∧ A := by
  cases b with
  | true => exact ⟨rfl, h⟩
  | false => exact h.elim
theorem rqB.mk {b : Bool} {A : Prop} (h : b = true) (a : A) : rqB b A := by subst h; exact a
abbrev Rq (c : Prop) [Decidable c] (A : Prop) : Prop := rqB (decide c) A
theorem Rq.c {c A : Prop} [Decidable c] (h : Rq c A) : c := of_decide_eq_true (rqB.ex h).1
theorem Rq.a {c A : Prop} [Decidable c] (h : Rq c A) : A := (rqB.ex h).2
theorem Rq.mk {c A : Prop} [Decidable c] (h : c) (a : A) : rqB (decide c) A := rqB.mk (decide_eq_true h) a
def brK (b : Bool) (A B : Prop) : Prop := match b with
  | true => A
  | false => B
/-- what an operation on data does: from d1, d2 the R z -/
abbrev F2 := D → D → Option R
def OpD (X : Cx) (g : Value → Value → Sem Value) (f : F2) : Prop := ∃ rr : R2, OpR X g rr ∧ ∀ (e : En) (F : Hp) (r : Rho) (s : L2.St) (H : Hp) (v1 v2 : V) (d1 d2 : D) (z : R) (Q : VK),
  Ok X.K e F r s H → Lk X.K F H v1 d1 → Lk X.K F H v2 d2 → f d1 d2 = some z → (∀ v F' H', Ok X.K e F' r s H' → Sub F F' → RR X.K e F' r s H' z v → Q v H') → rr v1 v2 H Q
theorem OpR.or {X : Cx} {g : Value → Value → Sem Value} {a b : R2} (h : OpR X g a) (h' : OpR X g b) : OpR X g (fun x y H Q => a x y H Q ∨ b x y H Q) := fun pins s σ H x y v u Q I rx ry q =>
  q.elim (h pins s σ H x y v u Q I rx ry) (h' pins s σ H x y v u Q I rx ry)
def orF (f g : F2) : F2 := fun a b => match f a b with
  | some z => some z
  | none => g a b
theorem OpD.or {X : Cx} {g : Value → Value → Sem Value} {f f' : F2} (h : OpD X g f) (h' : OpD X g f') : OpD X g (orF f f') := by
  obtain ⟨a, ha, qa⟩ := h
  obtain ⟨b, hb, qb⟩ := h'
  refine ⟨_, OpR.or ha hb, fun e F r s H v1 v2 d1 d2 z Q k l1 l2 q w => ?_⟩
  unfold orF at q
  split at q
  · rename_i y hy
    exact .inl (qa e F r s H v1 v2 d1 d2 z Q k l1 l2 (hy.trans q) w)
  · exact .inr (qb e F r s H v1 v2 d1 d2 z Q k l1 l2 q w)
/-- an operation and what it does, told so that it runs -/
structure OpK where
  f : F2
  k : D → D → (R → Prop) → Prop
  ok : ∀ d1 d2 K, k d1 d2 K → ∃ z, f d1 d2 = some z ∧ K z
def KOp (o : OpK) (P : Po) (x y : R) (r : Rho) : Prop := onO (look r x) fun d1 => onO (look r y) fun d2 => o.k d1 d2 fun z => P z r
theorem KOp.ex {o : OpK} {P : Po} {x y : R} {r : Rho} (h : KOp o P x y r) : ∃ d1 d2 z, look r x = some d1 ∧ look r y = some d2 ∧ o.f d1 d2 = some z ∧ P z r := by
  obtain ⟨d1, e1, h1⟩ := onO.ex h
  obtain ⟨d2, e2, h2⟩ := onO.ex h1
  obtain ⟨z, e3, h3⟩ := o.ok _ _ _ h2
  exact ⟨d1, d2, z, e1, e2, e3, h3⟩
def mOp (o : OpK) (ma mb : ME) : ME := fun r P => ma r fun x r1 => mb r1 fun y r2 => KOp o P x.tmp y.tmp r2
theorem mOp_read {X : Cx} {e : En} {o : OpK} {ma mb : ME} {rr : R2} (ho : ∀ (e : En) (F : Hp) (r : Rho) (s : L2.St) (H : Hp) (v1 v2 : V) (d1 d2 : D) (z : R) (Q : VK),
    Ok X.K e F r s H → Lk X.K F H v1 d1 → Lk X.K F H v2 d2 → o.f d1 d2 = some z → (∀ v F' H', Ok X.K e F' r s H' → Sub F F' → RR X.K e F' r s H' z v → Q v H') → rr v1 v2 H Q)
    {s : L2.St} {H : Hp} {Q : VK} (h : T X.K e (mOp o ma mb) s H Q) : tOp rr (Tt X.K e (mTmp ma)) (Tt X.K e (mTmp mb)) s H Q := by
  obtain ⟨F, r, k, P, hm, hP⟩ := h
  refine ⟨F, r, k, fun x r1 => mb r1 fun y r2 => KOp o P x y.tmp r2, hm, fun x r1 v1 F1 H1 hx k1 q1 t1 => ?_⟩
  refine ⟨F1, r1, k1, fun y r2 => KOp o P x y r2, hx, fun y r2 v2 F2 H2 hy k2 q2 t2 => ?_⟩
  obtain ⟨d1, d2, z, e1, e2, ef, hz⟩ := KOp.ex hy
  exact ho e F2 r2 s H2 v1 v2 d1 d2 z Q k2 ((t1.mono q2).look k2 e1) (t2.look k2 e2) ef fun v F' H' k' q' hr => hP z r2 v F' H' hz k' ((q1.trans q2).trans q') hr
section
variable {X : Cx} {a b : Expr} {ma mb : ME} {pos : Pos}
theorem de_op {op : Operator} {o : OpK} (ho : OpD X (binaryOp op) o.f) (ha : DE X a ma) (hb : DE X b mb) : DE X (.BinOp a op b pos) (mOp o ma mb) := fun e => by
  obtain ⟨rr, hr, hq⟩ := ho
  exact PE.imp (pe_op hr (ha.tmp e) (hb.tmp e)) fun s H Q h => mOp_read hq h
theorem de_cmp {op : CmpOp} {o : OpK} (ho : OpD X (compareOp op) o.f) (ha : DE X a ma) (hb : DE X b mb) (hm : behindInMarks op b = false) : DE X (.Compare a [op] [b] pos) (mOp o ma mb) := fun e => by
  obtain ⟨rr, hr, hq⟩ := ho
  exact PE.imp (pe_cmpR hr (ha.tmp e) (hb.tmp e) hm) fun s H Q h => mOp_read hq h
def mVal (d : D) : ME := fun r P => P (.val d) r
def mVar (i : Nat) : ME := fun r P => match r[i]? with
  | some (some (.val d)) => P (.val d) r
  | some (some (.box _ _)) => P (.bor i) r
  | some (some (.ob ns)) => P (.ob ns) r
  | some (some (.adr n a)) => P (.adr n a) r
  | _ => False
theorem de_var {i : Nat} {x : Str} (hN : X.N[i]? = some x) (hv : Vis X.env.scope x) (hd : (x == ("__debug__" : Str)) = false := by decide) (hcd : (x == ("__classdict__" : Str)) = false := by decide) : DE X (.Name x pos) (mVar i) := fun e =>
  PE.imp (pe_var hN hv hd hcd) fun s H Q ⟨F, r, k, P, hm, hP⟩ => by
    unfold mVar at hm
    split at hm
    · rename_i d z
      obtain ⟨v, h1, h2⟩ := k.slot i d z
      exact ⟨v, h1, hP _ r v F H hm k (Sub.refl F) (.val h2)⟩
    · rename_i b m z
      obtain ⟨p, o, h1, _⟩ := k.box i b m z
      exact ⟨_, h1, hP _ r _ F H hm k (Sub.refl F) (.bor h1 ⟨b, m, z⟩)⟩
    · rename_i ns z
      obtain ⟨a, h1, h2⟩ := k.ob i ns z
      exact ⟨_, h1, hP _ r _ F H hm k (Sub.refl F) (.ob h2)⟩
    · rename_i n a z
      exact ⟨_, k.adr i n a z, hP _ r _ F H hm k (Sub.refl F) .adr⟩
    · exact hm.elim
theorem de_const {v : V} {d : D} (h : PE X a (tC v)) (hd : ∀ F, Rp X.K F v d) : DE X a (mVal d) := fun e =>
  PE.imp h fun s H Q ⟨F, r, k, P, hm, hP⟩ => hP _ r v F H hm k (Sub.refl F) (.val (hd F))
theorem de_int {i j} : DE X (.Constant (.int i) j pos) (mVal (.int i)) := de_const pe_int fun _ => .int i
theorem de_bl {b j} : DE X (.Constant (.bool b) j pos) (mVal (.bool b)) := de_const pe_bl fun _ => .bl b
theorem de_non {j} : DE X (.Constant .none j pos) (mVal .none) := de_const pe_non fun _ => .non
theorem de_str {x j} : DE X (.Constant (.str x) j pos) (mVal (.str x)) := de_const pe_str fun _ => .str x
end
end DL
namespace DL
open PySem L2 PyProof.Rows
abbrev tobj (its : List Value) : Obj := { cls := .type "tuple", data := .seq its.toArray }
section
variable {X : Cx} {pins : List (Addr × Obj)} {σ : L2.St} {H : Hp} {s : Shared}
theorem tupO_ok {P : Program} {w : World} {H : Hp} {h : Heap} {p : Addr} {its : List Value} {xs : List V} (r : Vals xs its) (hz : xs.length ≤ sizeLine) (e : h.get? p = some (tobj its)) : ObjOk P w H h p (tupO (tobj its) xs) := by
  have go : ObjOk P w H h p (.tup xs) := ⟨hz, its, r, ⟨_, e, rfl, _, rfl⟩⟩
  unfold tupO
  cases xs.all noIntV with
  | true => exact ⟨e, go⟩
  | false => exact go
theorem Inv.ltup {its : List Value} {xs : List V} (I : Inv X pins σ H s) (r : Vals xs its) (hz : xs.length ≤ sizeLine) : Inv X pins σ (upd H s.heap.objs.size (tupO (tobj its) xs)) { s with heap := s.heap.push (tobj its) } :=
  I.laid (t' := s.toks) (fun b u e => Heap.get?_push_of_some _ e) (Nat.le_refl _) (tupO_ok r hz (Heap.get?_push_size _ rfl))
/-- what is wished of a new tuple -/
def newT (xs : List V) (H : Hp) (Q : VK) : Prop := ∀ p o, H p = none → o.dict = none → Q (.ref p) (upd H p (tupO o xs))
theorem ep_tup {its : List Value} {xs : List V} {Q : VK} (I : Inv X pins σ H s) (r : Vals xs its) (hz : xs.length ≤ sizeLine) (q : newT xs H Q) : EP X pins σ Q (.ref s.heap.objs.size) { s with heap := s.heap.push (tobj its) } :=
  ⟨.ref _, _, Inv.ltup I r hz, rfl, q _ _ (I.hok.fresh (Nat.le_refl _)) rfl⟩
def tTupZ (t : TA) : TE := fun σ H Q => t σ H fun xs H1 => xs.length ≤ sizeLine ∧ newT xs H1 Q
theorem pe_tupZ {es : List Expr} {t : TA} {pos : Pos} {x1} (h : PA X es t) : PE X (.Tuple es x1 pos) (tTupZ t) :=
  ⟨fun pins s σ H Q I hq => wpAny_Tuple_spliced (thn (h.run pos pins s σ H _ I hq) fun us s1 ⟨xs, H1, I1, r, z, q⟩ => ⟨by rw [← r.length]; exact z, ep_tup I1 r z q⟩)⟩
def rCatZ (K : Fg) : R2 := fun x y H Q => ∃ a b xs ys, x = .ref a ∧ y = .ref b ∧ SqT K H a xs ∧ SqT K H b ys ∧ xs.length + ys.length ≤ sizeLine ∧
  (xs = [] → Q (.ref b) H) ∧ (xs ≠ [] → ys = [] → Q (.ref a) H) ∧ (xs ≠ [] → ys ≠ [] → newT (xs ++ ys) H Q)
theorem op_catZ : OpR X (binaryOp .Add) (rCatZ X.K) := by
  intro pins s σ H x y v u Q I rx ry ⟨a, b, xs, ys, ex, ey, ha, hb, hz, q0, q1, q2⟩
  subst ex ey
  cases rx; cases ry
  obtain ⟨its, r1, p1, _⟩ := I.tuple ha
  obtain ⟨its2, r2, p2, _⟩ := I.tuple hb
  by_cases hx : xs = []
  · subst hx
    cases r1
    exact cat_tup0 p1 p2 ⟨.ref b, H, I, rfl, q0 rfl⟩
  · refine HT.cat_tup p1 p2 (fun z => hx (r1.nil_iff.mp z)) (fun z => ⟨.ref a, H, I, rfl, q1 hx (r2.nil_iff.mp z)⟩) (fun z => ?_) (by rw [← r1.length, ← r2.length]; exact hz)
    exact ep_tup I (r1.append r2) (by rw [List.length_append]; exact hz) (q2 hx fun w => z (r2.nil_iff.mpr w))
def rSlZ (K : Fg) : V → Option Int → Option Int → Hp → VK → Prop := fun x lo hi H Q => ∃ a xs, x = .ref a ∧ SqT K H a xs ∧
  (HT.sIx xs.length 0 lo = 0 ∧ HT.sIx xs.length xs.length hi = xs.length → Q (.ref a) H) ∧ (¬ (HT.sIx xs.length 0 lo = 0 ∧ HT.sIx xs.length xs.length hi = xs.length) → newT (cutV xs lo hi) H Q)
theorem sl_tupZ : SlR X (rSlZ X.K) := by
  intro pins s σ H x v vl vu lo hi sl Q I rx hs pl pu ⟨a, xs, ex, hx, q1, q2⟩
  subst ex
  cases rx
  obtain ⟨its, r, ht, hz⟩ := I.tuple hx
  have hl : its.toArray.size = xs.length := by rw [List.size_toArray, r.length]
  refine ⟨"tuple", _, PyProof.Rows.slot_tuple_getitem.lookup, ht.typeIs, ?_⟩
  by_cases hw : HT.sIx xs.length 0 lo = 0 ∧ HT.sIx xs.length xs.length hi = xs.length
  · exact getItem_tuple_whole ht hs pl pu (by rw [hl]; exact hw) ⟨.ref a, H, I, rfl, q1 hw⟩
  · refine HT.getItem_tuple_cut ht hs pl pu (by rw [hl]; exact hw) ?_ (by rw [hl]; exact hz)
    rw [hl]
    exact ep_tup I ((r.drop _).take _) (Nat.le_trans (cutV_length xs lo hi) hz) (q2 hw)
/-- tuple(x) -/
def rTupZ (K : Fg) (xs : List V) (H : Hp) (Q : VK) : Prop := (∃ p ys, xs = [.ref p] ∧ SqL K H p ys ∧ newT ys H Q) ∨ ∃ p ys, xs = [.ref p] ∧ SqT K H p ys ∧ Q (.ref p) H
theorem call_tupZ : CallR X (.type "tuple") (rTupZ X.K) := by
  intro pins s σ H xs us Q I r h
  rcases h with ⟨p, ys, e, hs, q⟩ | ⟨p, ys, e, hs, q⟩
  · subst e
    obtain ⟨u, e, ru⟩ := vals1 r
    subst e
    cases ru
    obtain ⟨its, rv, pl, hz⟩ := I.list hs
    refine call_tuple_list pl.isList (fun h' hk => ?_) (by rw [List.size_toArray, ← rv.length]; exact hz)
    exact ep_tup (s := { s with heap := h' }) (I.kept (t' := s.toks) hk) rv hz q
  · subst e
    obtain ⟨u, e, ru⟩ := vals1 r
    subst e
    cases ru
    obtain ⟨its, rv, pl, hz⟩ := I.tuple hs
    exact call_tuple_tup pl ⟨.ref p, H, I, rfl, q⟩
end
end DL
namespace DL
open PySem L2 PyProof.Rows
section
variable {X : Cx}
theorem Lk.int {K : Fg} {F H : Hp} {v : V} {i : Int} (h : Lk K F H v (.int i)) : v = .int i := by
  generalize e : (PyData.int i : D) = d at h
  cases h with
  | rp a => subst e; cases a; rfl
  | @mo p o m a b => cases m <;> cases e
theorem Lk.str {K : Fg} {F H : Hp} {v : V} {x : Str} (h : Lk K F H v (.str x)) : v = .str x := by
  generalize e : (PyData.str x : D) = d at h
  cases h with
  | rp a => subst e; cases a; rfl
  | @mo p o m a b => cases m <;> cases e
theorem Lk.bl {K : Fg} {F H : Hp} {v : V} {x : Bool} (h : Lk K F H v (.bool x)) : v = .bl x := by
  generalize e : (PyData.bool x : D) = d at h
  cases h with
  | rp a => subst e; cases a; rfl
  | @mo p o m a b => cases m <;> cases e
theorem Lk.non {K : Fg} {F H : Hp} {v : V} (h : Lk K F H v .none) : v = .non := by
  generalize e : (PyData.none : D) = d at h
  cases h with
  | rp a => subst e; cases a; rfl
  | @mo p o m a b => cases m <;> cases e
theorem Lk.lst {K : Fg} {F H : Hp} {v : V} {ds : List D} (h : Lk K F H v (.list ds)) (q : Sub F H) : ∃ a xs, v = .ref a ∧ Rd H a (.lst xs) ∧ RpA K F xs ds := by
  generalize e : (PyData.list ds : D) = d at h
  cases h with
  | rp a => subst e; cases a with | lst a b => exact ⟨_, _, rfl, q.rd a, b⟩
  | @mo p o m a b =>
    cases b with
    | L r => cases e; exact ⟨_, _, rfl, .inl a, r⟩
    | K => cases e
    | T => cases e
theorem Lk.tup {K : Fg} {F H : Hp} {v : V} {ds : List D} (h : Lk K F H v (.tuple ds)) (q : Sub F H) : ∃ a xs, v = .ref a ∧ SqT K H a xs ∧ RpA K F xs ds ∧ Rp K F v (.tuple ds) := by
  generalize e : (PyData.tuple ds : D) = d at h
  cases h with
  | rp a => subst e; exact (by cases a with | tup a b => exact ⟨_, _, rfl, q.sqT a.sqT, b, .tup a b⟩)
  | @mo p o m a b => cases m <;> cases e
theorem rd_list {P : Program} {w : World} {H : Hp} {h : Heap} {a : Addr} {xs : List V} (q : Rd H a (.lst xs)) (k : HOk P w H h) : xs.length ≤ sizeLine ∧ ∃ (its : List Value) (n : Nat), Vals xs its ∧ h.get? a = some { cls := .type "list", data := .seq its.toArray n } := by
  have z := q.ok k
  exact z
def rCatR : R2 := fun x y H Q => ∃ l b xs zs, x = .ref l ∧ y = .ref b ∧ Rd H l (.lst xs) ∧ Rd H b (.lst zs) ∧ xs.length + zs.length ≤ sizeLine ∧ ∀ p, H p = none → Q (.ref p) (upd H p (.lst (xs ++ zs)))
theorem op_catR : OpR X (binaryOp .Add) rCatR := by
  rintro pins s σ H _ _ v u Q I rx ry ⟨l, b, xs, zs, rfl, rfl, h1, h2, hz, q⟩
  cases rx; cases ry
  obtain ⟨_, i1, n1, r1, e1⟩ := rd_list h1 I.hok
  obtain ⟨_, i2, n2, r2, e2⟩ := rd_list h2 I.hok
  have l1 := r1.length
  have l2 := r2.length
  refine PySem.P.add_list e1 e2 ?_ (by rw [List.size_toArray, List.size_toArray]; omega)
  rw [show i1.toArray ++ i2.toArray = (i1 ++ i2).toArray by simp]
  exact ⟨.ref _, _, I.lnew (t' := s.toks) (r1.append r2) (by rw [List.length_append]; omega), rfl, q _ I.fresh⟩
/-- the answer is flat -/
theorem RR.flat {K : Fg} {e : En} {F : Hp} {r : Rho} {s : L2.St} {H : Hp} {v : V} {d : D} (h : Rp K F v d) : RR K e F r s H (.val d) v := .val h
/-- a new list, own -/
theorem RR.newL {K : Fg} {e : En} {F : Hp} {r : Rho} {s : L2.St} {H : Hp} {p : Addr} {xs : List V} {ds : List D} (k : Ok K e F r s H) (h : H p = none) (a : RpA K F xs ds) : RR K e F r s (upd H p (.lst xs)) (.own (.L ds)) (.ref p) :=
  .own upd_same (.L a) (k.free h).1 (k.free h).2.1 (k.free h).2.2 (k.nobox h)
theorem RR.newT {K : Fg} {e : En} {F : Hp} {r : Rho} {s : L2.St} {H : Hp} {p : Addr} {o : Obj} {xs : List V} {ds : List D} (k : Ok K e F r s H) (h : H p = none) (hd : o.dict = none) (a : RpA K F xs ds) : RR K e (upd F p (tupO o xs)) r s (upd H p (tupO o xs)) (.val (.tuple ds)) (.ref p) :=
  .val (.tup (TpOk.new hd a) (a.mono (Sub.new (k.free h).1)))
def fAdd : F2
  | .int i, .int j => some (.val (.int (i + j)))
  | .str a, .str b => if a.length + b.length ≤ sizeLine then some (.val (.str (a ++ b))) else none
  | .list a, .list b => if a.length + b.length ≤ sizeLine then some (.own (.L (a ++ b))) else none
  | .tuple a, .tuple b => if a.length + b.length ≤ sizeLine then some (.val (.tuple (a ++ b))) else none
  | _, _ => none
theorem opd_add : OpD X (binaryOp .Add) fAdd := by
  refine ⟨_, OpR.or op_add (OpR.or op_add_str (OpR.or op_catR op_catZ)), fun e F r s H v1 v2 d1 d2 z Q k l1 l2 ef w => ?_⟩
  unfold fAdd at ef
  split at ef
  · cases ef
    exact .inl ⟨_, _, l1.int, l2.int, w _ F H k (Sub.refl F) (.val (.int _))⟩
  · split at ef
    · rename_i hz; cases ef
      exact .inr (.inl ⟨_, _, l1.str, l2.str, hz, w _ F H k (Sub.refl F) (.val (.str _))⟩)
    · cases ef
  · split at ef
    · rename_i hz; cases ef
      obtain ⟨a, xs, e1, h1, r1⟩ := l1.lst k.sub
      obtain ⟨b, ys, e2, h2, r2⟩ := l2.lst k.sub
      refine .inr (.inr (.inl ⟨a, b, xs, ys, e1, e2, h1, h2, by rw [r1.length, r2.length]; exact hz, fun p hp => ?_⟩))
      exact w _ F _ (k.alloc hp) (Sub.refl F) (.newL k hp (r1.append r2))
    · cases ef
  · split at ef
    · rename_i hz; cases ef
      obtain ⟨a, xs, e1, h1, r1, p1⟩ := l1.tup k.sub
      obtain ⟨b, ys, e2, h2, r2, p2⟩ := l2.tup k.sub
      refine .inr (.inr (.inr ⟨a, b, xs, ys, e1, e2, h1, h2, by rw [r1.length, r2.length]; exact hz, fun q => ?_, fun _ q => ?_, fun _ _ p o hp hd => ?_⟩))
      · subst q; cases r1; subst e2; exact w _ F H k (Sub.refl F) (.val p2)
      · subst q; cases r2; subst e1; rw [List.append_nil] at w; exact w _ F H k (Sub.refl F) (.val p1)
      · exact w _ _ _ (k.lay hp) (Sub.new (k.free hp).1) (.newT k hp hd (r1.append r2))
    · cases ef
  · cases ef
def fSub : F2
  | .int i, .int j => some (.val (.int (i - j)))
  | _, _ => none
theorem opd_sub : OpD X (binaryOp .Sub) fSub := by
  refine ⟨_, op_sub, fun e F r s H v1 v2 d1 d2 z Q k l1 l2 ef w => ?_⟩
  unfold fSub at ef
  split at ef
  · cases ef
    exact ⟨_, _, l1.int, l2.int, w _ F H k (Sub.refl F) (.val (.int _))⟩
  · cases ef
def small (i : Int) : Bool := decide (-(2 ^ 64) < i) && decide (i < 2 ^ 64)
theorem op_mul_str : OpR X (binaryOp .Mult) (fun x y H Q => ∃ a n, x = .str a ∧ y = .int n ∧ MulOk a n ∧ Q (.str (Txt.mul a n)) H) := by
  rintro pins s σ H _ _ v u Q I rx ry ⟨a, n, rfl, rfl, hk, q⟩
  obtain ⟨t, rfl⟩ := rx
  obtain ⟨t', rfl⟩ := ry
  exact PySem.SB.mul hk fun t2 k => ⟨.str _, H, I.tok _, ⟨_, rfl⟩, q⟩
theorem mulOk_of {a : Str} {n : Int} (h : a.length * n.toNat ≤ 1000000) (h2 : n < 1000000) (h1 : -1000000 < n) : MulOk a n := by
  refine ⟨?_, fun h3 h4 => ?_, fun _ _ => ?_⟩
  · simp only [Bool.or_eq_false_iff, decide_eq_false_iff_not]
    omega
  · have hn : (1 : Int) ≤ n := by omega
    obtain ⟨m, rfl⟩ : ∃ m : Nat, n = (m : Int) := ⟨n.toNat, by omega⟩
    have h5 : a.length * m ≤ 1000000 := h
    have : (a.length : Int) * m ≤ 1000000 := by rw [← Int.natCast_mul]; omega
    have h6 : (a.length : Int) ≤ (2 ^ 63 - 1) / (m : Int) := (Int.le_ediv_iff_mul_le (by omega)).mpr (by omega)
    omega
  · have : sizeLine = 16777216 := sizeLine_eq
    exact decide_eq_false (by omega)
def fMul : F2
  | .int i, .int j => if small i || small j then some (.val (.int (i * j))) else none
  | .str a, .int n => if a.length * n.toNat ≤ 1000000 ∧ n < 1000000 ∧ -1000000 < n then some (.val (.str (Txt.mul a n))) else none
  | .tuple a, .int n => if a ≠ [] ∧ 2 ≤ n ∧ n ≤ 1000 ∧ a.length ≤ 1000 ∧ (List.replicate n.toNat a).flatten.all noInt = false then some (.val (.tuple (List.replicate n.toNat a).flatten)) else none
  | _, _ => none
theorem RpA.rep {K : Fg} {F : Hp} {vs : List V} {ds : List D} (h : RpA K F vs ds) (n : Nat) : RpA K F (List.replicate n vs).flatten (List.replicate n ds).flatten := by
  induction n with
  | zero => exact .nil
  | succ n ih => rw [List.replicate_succ, List.replicate_succ, List.flatten_cons, List.flatten_cons]; exact h.append ih
theorem RpA.ne {K : Fg} {F : Hp} {vs : List V} {ds : List D} (h : RpA K F vs ds) (q : ds ≠ []) : vs ≠ [] := by
  rintro rfl; cases h; exact q rfl
theorem opd_mul : OpD X (binaryOp .Mult) fMul := by
  refine ⟨_, OpR.or op_mul (OpR.or op_mul_str op_repT), fun e F r s H v1 v2 d1 d2 z Q k l1 l2 ef w => ?_⟩
  unfold fMul at ef
  split at ef
  · split at ef
    · rename_i hz; cases ef
      refine .inl ⟨_, _, l1.int, l2.int, ?_, w _ F H k (Sub.refl F) (.val (.int _))⟩
      simp only [small, Bool.or_eq_true, Bool.and_eq_true, decide_eq_true_eq] at hz
      exact hz
    · cases ef
  · split at ef
    · rename_i hz; cases ef
      exact .inr (.inl ⟨_, _, l1.str, l2.int, mulOk_of hz.1 hz.2.1 hz.2.2, w _ F H k (Sub.refl F) (.val (.str _))⟩)
    · cases ef
  · split at ef
    · rename_i hz; cases ef
      obtain ⟨a, xs, e1, h1, r1, p1⟩ := l1.tup k.sub
      refine .inr (.inr ⟨a, _, xs, e1, l2.int, h1, r1.ne hz.1, hz.2.1, hz.2.2.1, by rw [r1.length]; exact hz.2.2.2.1, fun p hp => ?_⟩)
      exact w _ _ _ (k.lay hp) (Sub.new (k.free hp).1) (.val (.tup (.inl ⟨upd_same, hz.2.2.2.2⟩) ((r1.rep _).mono (Sub.new (k.free hp).1))))
    · cases ef
  · cases ef
def fDiv : F2
  | .int i, .int j => if 0 < j ∧ j < 1073741824 then some (.val (.int (i / j))) else none
  | _, _ => none
theorem opd_div : OpD X (binaryOp .FloorDiv) fDiv := by
  refine ⟨_, op_fdiv, fun e F r s H v1 v2 d1 d2 z Q k l1 l2 ef w => ?_⟩
  unfold fDiv at ef
  split at ef
  · split at ef
    · rename_i hz; cases ef
      exact ⟨_, _, l1.int, l2.int, hz, w _ F H k (Sub.refl F) (.val (.int _))⟩
    · cases ef
  · cases ef
def fMod : F2
  | .int i, .int j => if 0 < j then some (.val (.int (i % j))) else none
  | _, _ => none
theorem opd_mod : OpD X (binaryOp .Mod) fMod := by
  refine ⟨_, op_mod, fun e F r s H v1 v2 d1 d2 z Q k l1 l2 ef w => ?_⟩
  unfold fMod at ef
  split at ef
  · split at ef
    · rename_i hz; cases ef
      exact ⟨_, _, l1.int, l2.int, hz, w _ F H k (Sub.refl F) (.val (.int _))⟩
    · cases ef
  · cases ef
def fPow : F2
  | .int i, .int j => if 0 ≤ j ∧ j ≤ 100 ∧ i.natAbs < 2 ^ 4096 then some (.val (.int (i ^ j.toNat))) else none
  | _, _ => none
theorem op_powW : OpR X (binaryOp .Pow) (rI (fun i j => 0 ≤ j ∧ j ≤ 100 ∧ i.natAbs < 2 ^ 4096) fun i j => .int (i ^ j.toNat)) := opI fun i j _ _ _ _ _ hc q => by
  refine pow_int hc.1 ?_ q
  have h1 : Builtin.Int.intBits i ≤ 4096 := intBits_le hc.2.2
  have h2 := hc.1
  have h3 := hc.2.1
  have : (Builtin.Int.intBits i : Int) * j ≤ 4096 * 100 := Int.mul_le_mul (by omega) h3 h2 (by omega)
  omega
theorem opd_pow : OpD X (binaryOp .Pow) fPow := by
  refine ⟨_, op_powW, fun e F r s H v1 v2 d1 d2 z Q k l1 l2 ef w => ?_⟩
  unfold fPow at ef
  split at ef
  · split at ef
    · rename_i hz; cases ef
      exact ⟨_, _, l1.int, l2.int, hz, w _ F H k (Sub.refl F) (.val (.int _))⟩
    · cases ef
  · cases ef
end
theorem rq_if {α : Type} {c A : Prop} [Decidable c] {x : α} (h : Rq c A) : (if c then some x else none) = some x := if_pos h.c
def kAdd : D → D → (R → Prop) → Prop
  | .int i, .int j, K => K (.val (.int (i + j)))
  | .str x, .str y, K => Rq (x.length + y.length ≤ sizeLine) (K (.val (.str (x ++ y))))
  | .list x, .list y, K => Rq (x.length + y.length ≤ sizeLine) (K (.own (.L (x ++ y))))
  | .tuple x, .tuple y, K => Rq (x.length + y.length ≤ sizeLine) (K (.val (.tuple (x ++ y))))
  | _, _, _ => False
def oAdd : OpK := ⟨fAdd, kAdd, fun d1 d2 K h => by
  cases d1 <;> cases d2 <;> first
    | exact h.elim
    | exact ⟨_, rfl, h⟩
    | exact ⟨_, rq_if h, Rq.a h⟩⟩
def kSub : D → D → (R → Prop) → Prop
  | .int i, .int j, K => K (.val (.int (i - j)))
  | _, _, _ => False
def oSub : OpK := ⟨fSub, kSub, fun d1 d2 K h => by
  cases d1 <;> cases d2 <;> first
    | exact h.elim
    | exact ⟨_, rfl, h⟩⟩
def kMul : D → D → (R → Prop) → Prop
  | .int i, .int j, K => Rq ((-(2 ^ 64) < i ∧ i < 2 ^ 64) ∨ (-(2 ^ 64) < j ∧ j < 2 ^ 64)) (K (.val (.int (i * j))))
  | .str a, .int n, K => Rq (a.length * n.toNat ≤ 1000000 ∧ n < 1000000 ∧ -1000000 < n) (K (.val (.str (Txt.mul a n))))
  | .tuple a, .int n, K => Rq (a ≠ [] ∧ 2 ≤ n ∧ n ≤ 1000 ∧ a.length ≤ 1000 ∧ (List.replicate n.toNat a).flatten.all noInt = false) (K (.val (.tuple (List.replicate n.toNat a).flatten)))
  | _, _, _ => False
def oMul : OpK := ⟨fMul, kMul, fun d1 d2 K h => by
  cases d1 <;> cases d2 <;> first
    | exact h.elim
    | exact ⟨_, rq_if h, Rq.a h⟩
    | (refine ⟨_, if_pos ?_, Rq.a h⟩
       simp only [small, Bool.or_eq_true, Bool.and_eq_true, decide_eq_true_eq]
       exact Rq.c h)⟩
def kDiv : D → D → (R → Prop) → Prop
  | .int i, .int j, K => Rq (0 < j ∧ j < 1073741824) (K (.val (.int (i / j))))
  | _, _, _ => False
def oDiv : OpK := ⟨fDiv, kDiv, fun d1 d2 K h => by
  cases d1 <;> cases d2 <;> first
    | exact h.elim
    | exact ⟨_, rq_if h, Rq.a h⟩⟩
def kMod : D → D → (R → Prop) → Prop
  | .int i, .int j, K => Rq (0 < j) (K (.val (.int (i % j))))
  | _, _, _ => False
def oMod : OpK := ⟨fMod, kMod, fun d1 d2 K h => by
  cases d1 <;> cases d2 <;> first
    | exact h.elim
    | exact ⟨_, rq_if h, Rq.a h⟩⟩
theorem big_pow {a : Int} (h1 : 0 ≤ a) (h2 : a ≤ 2 ^ 200) : a.natAbs < 2 ^ 4096 := by
  have h3 : a.natAbs ≤ 2 ^ 200 := by
    have : (a.natAbs : Int) ≤ ((2 ^ 200 : Nat) : Int) := by rw [Int.natAbs_of_nonneg h1]; exact h2
    exact Int.ofNat_le.mp this
  exact Nat.lt_of_le_of_lt h3 (Nat.pow_lt_pow_right (by decide) (by decide))
def kPow : D → D → (R → Prop) → Prop
  | .int i, .int j, K => Rq ((0 ≤ j ∧ j ≤ 100) ∧ 0 ≤ i ∧ i ≤ 2 ^ 200) (K (.val (.int (i ^ j.toNat))))
  | _, _, _ => False
def oPow : OpK := ⟨fPow, kPow, fun d1 d2 K h => by
  cases d1 <;> cases d2 <;> first
    | exact h.elim
    | exact ⟨_, if_pos ⟨(Rq.c h).1.1, (Rq.c h).1.2, big_pow (Rq.c h).2.1 (Rq.c h).2.2⟩, Rq.a h⟩⟩
end DL
namespace DL
open PySem L2 PyProof.Rows
section
variable {X : Cx}
def flatD : D → Bool
  | .none | .bool _ | .int _ | .str _ => true
  | _ => false
def toV : D → V
  | .none => .non
  | .bool b => .bl b
  | .int i => .int i
  | .str x => .str x
  | _ => .non
theorem Lk.flat {K : Fg} {F H : Hp} {v : V} {d : D} (h : Lk K F H v d) (f : flatD d = true) : v = toV d := by
  cases d <;> first
    | exact h.non
    | exact h.bl
    | exact h.int
    | exact h.str
    | cases f
theorem flatV_toV (d : D) (f : flatD d = true) : flatV (toV d) = true := by cases d <;> first | rfl | cases f
theorem eqV_toV (a b : D) (fa : flatD a = true) (fb : flatD b = true) : eqV (toV a) (toV b) = PyData.eqv a b := by
  cases a <;> cases b <;> first | rfl | exact Bool.noConfusion (show false = true from fa) | exact Bool.noConfusion (show false = true from fb)
/-- pairs of flat data that == tells apart as data -/
def scalD (a b : D) : Bool := flatD a && flatD b && scal (toV a) (toV b)
theorem scal_eq (a b : D) (h : scalD a b = true) : decide (toV a = toV b) = PyData.eqv a b := by
  simp only [scalD, Bool.and_eq_true] at h
  obtain ⟨⟨fa, fb⟩, h⟩ := h
  cases a <;> cases b <;> first
    | exact Bool.noConfusion (show false = true from fa)
    | exact Bool.noConfusion (show false = true from fb)
    | (simp [toV, PyData.eqv]; done)
    | (simp [toV, PyData.eqv, Bool.beq_eq_decide_eq]; done)
    | (exact absurd (show false = true from h) Bool.false_ne_true)
mutual
theorem Rp.dp {K : Fg} {H : Hp} : ∀ {v : V} {d : D}, Rp K H v d → d.hasDict = false → Dp K H v d
  | _, _, .non, _ => .non
  | _, _, .bl b, _ => .bl b
  | _, _, .int i, _ => .int i
  | _, _, .str x, _ => .str x
  | _, _, .lst h r, q => .lst (.inl h) (RpA.dp r (by simpa [PyData.hasDict] using q))
  | _, _, .tup h r, q => .tup h.sqT (RpA.dp r (by simpa [PyData.hasDict] using q))
  | _, _, .dct _ _ _ _, q => by simp [PyData.hasDict] at q
theorem RpA.dp {K : Fg} {H : Hp} : ∀ {v : List V} {d : List D}, RpA K H v d → PyData.hasDictAll d = false → DpAll K H v d
  | _, _, .nil, _ => .nil
  | _, _, .cons h r, q => by
    simp only [PyData.hasDictAll, Bool.or_eq_false_iff] at q
    exact .cons (Rp.dp h q.1) (RpA.dp r q.2)
end
theorem shaped_nodict {d : D} (h : SeqAt.shaped d = true) : d.hasDict = false := PyData.hasDict_of_canLay d (SeqAt.canLay_of_shaped h)
def fEqB (neg : Bool) : F2 := fun a b => if scalD a b || (SeqAt.shaped a && SeqAt.shaped b) then some (.val (.bool (if neg then !PyData.eqv a b else PyData.eqv a b))) else none
abbrev fEq : F2 := fEqB false
abbrev fNe : F2 := fEqB true
theorem opd_eq (hu : X.A.units + 64 < cLine) : OpD X (compareOp .Eq) fEq := by
  refine ⟨_, OpR.or op_eq (op_eqD hu), fun e F r s H v1 v2 d1 d2 z Q k l1 l2 ef w => ?_⟩
  simp only [fEq, fEqB] at ef
  split at ef
  · rename_i hh
    cases ef
    rcases Bool.or_eq_true_iff.mp hh with h | h
    · have h0 := h
      simp only [scalD, Bool.and_eq_true] at h0
      refine .inl ?_
      rw [l1.flat h0.1.1, l2.flat h0.1.2]
      refine ⟨h0.2, ?_⟩
      rw [scal_eq _ _ h]
      exact w _ F H k (Sub.refl F) (.val (.bl _))
    · rw [Bool.and_eq_true] at h
      exact .inr ⟨d1, d2, (l1.all k.sub).dp (shaped_nodict h.1), (l2.all k.sub).dp (shaped_nodict h.2), h.1, h.2, w _ F H k (Sub.refl F) (.val (.bl _))⟩
  · cases ef
theorem opd_ne (hu : X.A.units + 64 < cLine) : OpD X (compareOp .NotEq) fNe := by
  refine ⟨_, OpR.or op_ne (op_neD hu), fun e F r s H v1 v2 d1 d2 z Q k l1 l2 ef w => ?_⟩
  simp only [fNe, fEqB] at ef
  split at ef
  · rename_i hh
    cases ef
    rcases Bool.or_eq_true_iff.mp hh with h | h
    · have h0 := h
      simp only [scalD, Bool.and_eq_true] at h0
      refine .inl ?_
      rw [l1.flat h0.1.1, l2.flat h0.1.2]
      refine ⟨h0.2, ?_⟩
      rw [scal_eq _ _ h]
      exact w _ F H k (Sub.refl F) (.val (.bl _))
    · rw [Bool.and_eq_true] at h
      exact .inr ⟨d1, d2, (l1.all k.sub).dp (shaped_nodict h.1), (l2.all k.sub).dp (shaped_nodict h.2), h.1, h.2, w _ F H k (Sub.refl F) (.val (.bl _))⟩
  · cases ef
def fLt : F2
  | .int i, .int j => some (.val (.bool (decide (i < j))))
  | .str a, .str b => some (.val (.bool (decide (a.cps.toList < b.cps.toList))))
  | _, _ => none
theorem opd_lt : OpD X (compareOp .Lt) fLt := by
  refine ⟨_, OpR.or op_lt op_lt_str, fun e F r s H v1 v2 d1 d2 z Q k l1 l2 ef w => ?_⟩
  unfold fLt at ef
  split at ef
  · cases ef; exact .inl ⟨_, _, l1.int, l2.int, w _ F H k (Sub.refl F) (.val (.bl _))⟩
  · cases ef; exact .inr ⟨_, _, l1.str, l2.str, w _ F H k (Sub.refl F) (.val (.bl _))⟩
  · cases ef
def fGt : F2
  | .int i, .int j => some (.val (.bool (decide (j < i))))
  | _, _ => none
theorem opd_gt : OpD X (compareOp .Gt) fGt := by
  refine ⟨_, op_gt, fun e F r s H v1 v2 d1 d2 z Q k l1 l2 ef w => ?_⟩
  unfold fGt at ef
  split at ef
  · cases ef; exact ⟨_, _, l1.int, l2.int, w _ F H k (Sub.refl F) (.val (.bl _))⟩
  · cases ef
def fGe : F2
  | .int i, .int j => some (.val (.bool (decide (j ≤ i))))
  | _, _ => none
theorem opd_ge : OpD X (compareOp .GtE) fGe := by
  refine ⟨_, op_ge, fun e F r s H v1 v2 d1 d2 z Q k l1 l2 ef w => ?_⟩
  unfold fGe at ef
  split at ef
  · cases ef; exact ⟨_, _, l1.int, l2.int, w _ F H k (Sub.refl F) (.val (.bl _))⟩
  · cases ef
def strIn (a b : Str) : Bool := !(Builtin.Str.occurrences b a 0 b.length 1).isEmpty
def flatIn (x : D) (ds : List D) : Bool := ds.any fun y => PyData.eqv y x
def fInB (neg : Bool) : F2 := fun x y => match y with
  | .str b => match x with
    | .str a => some (.val (.bool (if neg then !strIn a b else strIn a b)))
    | _ => none
  | .list ds => if flatD x && ds.all flatD then some (.val (.bool (if neg then !flatIn x ds else flatIn x ds))) else if SeqAt.shaped x && SeqAt.shaped (.list ds) then some (.val (.bool (if neg then !flatIn x ds else flatIn x ds))) else none
  | .tuple ds => if flatD x && ds.all flatD then some (.val (.bool (if neg then !flatIn x ds else flatIn x ds))) else none
  | _ => none
abbrev fIn : F2 := fInB false
abbrev fNotIn : F2 := fInB true
theorem RpA.flat {K : Fg} {F : Hp} : ∀ {vs : List V} {ds : List D}, RpA K F vs ds → ds.all flatD = true → vs = ds.map toV
  | _, _, .nil, _ => rfl
  | _, _, .cons h r, q => by
    simp only [List.all_cons, Bool.and_eq_true] at q
    rw [List.map_cons, RpA.flat r q.2, (Lk.rp h : Lk K F F _ _).flat q.1]
theorem inV_flat (x : D) (ds : List D) (f : flatD x = true) (q : ds.all flatD = true) : inV (toV x) (ds.map toV) = flatIn x ds := by
  unfold inV flatIn
  induction ds with
  | nil => rfl
  | cons d ds ih =>
    simp only [List.all_cons, Bool.and_eq_true] at q
    rw [List.map_cons, List.any_cons, List.any_cons, ih q.2, eqV_toV _ _ q.1 f]
theorem all_flatV (ds : List D) (q : ds.all flatD = true) : (ds.map toV).all flatV = true := by
  rw [List.all_map]
  rw [List.all_eq_true] at q ⊢
  exact fun d hd => flatV_toV d (q d hd)
theorem in_read {K : Fg} {neg : Bool} {e : En} {F : Hp} {r : Rho} {s : L2.St} {H : Hp} {v1 v2 : V} {x : D} {ds : List D} {Q : VK} {a : Addr} {xs : List V} (k : Ok K e F r s H) (l1 : Lk K F H v1 x) (e2 : v2 = .ref a) (h2 : SqL K H a xs ∨ SqT K H a xs) (r2 : RpA K F xs ds)
    (hf : (flatD x && ds.all flatD) = true) (w : ∀ v F' H', Ok K e F' r s H' → Sub F F' → RR K e F' r s H' (.val (.bool (if neg then !flatIn x ds else flatIn x ds))) v → Q v H') : rIn K neg v1 v2 H Q := by
  rw [Bool.and_eq_true] at hf
  have q := r2.flat hf.2
  subst q
  refine ⟨a, _, e2, h2, by rw [l1.flat hf.1]; exact flatV_toV x hf.1, all_flatV ds hf.2, ?_⟩
  rw [l1.flat hf.1, inV_flat x ds hf.1 hf.2]
  exact w _ F H k (Sub.refl F) (.val (.bl _))
theorem opd_in (hu : X.A.units + 65 < cLine) : OpD X (compareOp .In) fIn := by
  refine ⟨_, OpR.or op_in_str (OpR.or op_in_seq (op_inD hu)), fun e F r s H v1 v2 d1 d2 z Q k l1 l2 ef w => ?_⟩
  simp only [fIn, fInB] at ef
  split at ef
  · split at ef
    · cases ef; exact .inl ⟨_, _, l1.str, l2.str, w _ F H k (Sub.refl F) (.val (.bl _))⟩
    · cases ef
  · split at ef
    · rename_i hf; cases ef
      obtain ⟨a, xs, e2, h2, r2⟩ := l2.lst k.sub
      exact .inr (.inl (in_read (neg := false) k l1 e2 (.inl (.inl h2)) r2 hf w))
    · split at ef
      · rename_i hf; cases ef
        rw [Bool.and_eq_true] at hf
        exact .inr (.inr ⟨_, _, (l1.all k.sub).dp (shaped_nodict hf.1), (l2.all k.sub).dp (shaped_nodict hf.2), hf.1, hf.2, w _ F H k (Sub.refl F) (.val (.bl _))⟩)
      · cases ef
  · split at ef
    · rename_i hf; cases ef
      obtain ⟨a, xs, e2, h2, r2, _⟩ := l2.tup k.sub
      exact .inr (.inl (in_read (neg := false) k l1 e2 (.inr h2) r2 hf w))
    · cases ef
  · cases ef
theorem opd_notin (hu : X.A.units + 65 < cLine) : OpD X (compareOp .NotIn) fNotIn := by
  refine ⟨_, OpR.or op_notin_str (OpR.or op_notIn_seq (op_notInD hu)), fun e F r s H v1 v2 d1 d2 z Q k l1 l2 ef w => ?_⟩
  simp only [fNotIn, fInB] at ef
  split at ef
  · split at ef
    · cases ef; exact .inl ⟨_, _, l1.str, l2.str, w _ F H k (Sub.refl F) (.val (.bl _))⟩
    · cases ef
  · split at ef
    · rename_i hf; cases ef
      obtain ⟨a, xs, e2, h2, r2⟩ := l2.lst k.sub
      exact .inr (.inl (in_read (neg := true) k l1 e2 (.inl (.inl h2)) r2 hf w))
    · split at ef
      · rename_i hf; cases ef
        rw [Bool.and_eq_true] at hf
        exact .inr (.inr ⟨_, _, (l1.all k.sub).dp (shaped_nodict hf.1), (l2.all k.sub).dp (shaped_nodict hf.2), hf.1, hf.2, w _ F H k (Sub.refl F) (.val (.bl _))⟩)
      · cases ef
  · split at ef
    · rename_i hf; cases ef
      obtain ⟨a, xs, e2, h2, r2, _⟩ := l2.tup k.sub
      exact .inr (.inl (in_read (neg := true) k l1 e2 (.inr h2) r2 hf w))
    · cases ef
  · cases ef
def isNone : D → Bool
  | .none => true
  | _ => false
theorem Lk.isN {K : Fg} {F H : Hp} {v : V} {d : D} (h : Lk K F H v d) : decide (v = .non) = isNone d := by
  cases h with
  | rp a => cases a <;> simp [isNone]
  | @mo p o m a b => cases m <;> simp [isNone, MB.toD]
def fIsB (neg : Bool) : F2 := fun a b => match b with
  | .none => some (.val (.bool (if neg then !isNone a else isNone a)))
  | .bool y => match a with
    | .bool x => some (.val (.bool (if neg then !decide (x = y) else decide (x = y))))
    | _ => none
  | _ => none
abbrev fIs : F2 := fIsB false
theorem opd_is : OpD X (compareOp .Is) fIs := by
  refine ⟨_, OpR.or op_isN op_is_bl, fun e F r s H v1 v2 d1 d2 z Q k l1 l2 ef w => ?_⟩
  simp only [fIs, fIsB] at ef
  split at ef
  · cases ef
    refine .inl ⟨l2.non, ?_⟩
    rw [l1.isN]
    exact w _ F H k (Sub.refl F) (.val (.bl _))
  · split at ef
    · cases ef; exact .inr ⟨_, _, l1.bl, l2.bl, w _ F H k (Sub.refl F) (.val (.bl _))⟩
    · cases ef
  · cases ef
end
def kEq : D → D → (R → Prop) → Prop
  | .int a, .int b, K => K (.val (.bool (decide (a = b))))
  | .str a, .str b, K => K (.val (.bool (decide (a = b))))
  | a, b, K => rqB (scalD a b || (SeqAt.shaped a && SeqAt.shaped b)) (K (.val (.bool (PyData.eqv a b))))
def kNe : D → D → (R → Prop) → Prop
  | .int a, .int b, K => K (.val (.bool (!decide (a = b))))
  | .str a, .str b, K => K (.val (.bool (!decide (a = b))))
  | a, b, K => rqB (scalD a b || (SeqAt.shaped a && SeqAt.shaped b)) (K (.val (.bool (!PyData.eqv a b))))
theorem f_eq_int {a b : Int} : fEq (.int a) (.int b) = some (.val (.bool (decide (a = b)))) := by
  have h : scalD (.int a) (.int b) = true := by rfl
  simp [fEqB, h, PyData.eqv, Bool.beq_eq_decide_eq]
theorem f_ne_int {a b : Int} : fNe (.int a) (.int b) = some (.val (.bool (!decide (a = b)))) := by
  have h : scalD (.int a) (.int b) = true := by rfl
  simp [fEqB, h, PyData.eqv, Bool.beq_eq_decide_eq]
theorem f_eq_str {x y : Str} : fEq (.str x) (.str y) = some (.val (.bool (decide (x = y)))) := by
  have h : scalD (.str x) (.str y) = true := by rfl
  simp [fEqB, h, PyData.eqv, Bool.beq_eq_decide_eq]
theorem f_ne_str {x y : Str} : fNe (.str x) (.str y) = some (.val (.bool (!decide (x = y)))) := by
  have h : scalD (.str x) (.str y) = true := by rfl
  simp [fEqB, h, PyData.eqv, Bool.beq_eq_decide_eq]
theorem eq_ok {a b : D} {K : R → Prop} (h : rqB (scalD a b || (SeqAt.shaped a && SeqAt.shaped b)) (K (.val (.bool (PyData.eqv a b))))) : ∃ z, fEq a b = some z ∧ K z := by
  obtain ⟨h1, h2⟩ := rqB.ex h
  exact ⟨_, by simp only [fEqB, h1, if_true]; rfl, h2⟩
theorem ne_ok {a b : D} {K : R → Prop} (h : rqB (scalD a b || (SeqAt.shaped a && SeqAt.shaped b)) (K (.val (.bool (!PyData.eqv a b))))) : ∃ z, fNe a b = some z ∧ K z := by
  obtain ⟨h1, h2⟩ := rqB.ex h
  exact ⟨_, by simp only [fEqB, h1, if_true], h2⟩
def oEq : OpK := ⟨fEq, kEq, fun d1 d2 K h => by
  unfold kEq at h
  split at h
  · exact ⟨_, f_eq_int, h⟩
  · exact ⟨_, f_eq_str, h⟩
  · exact eq_ok h⟩
def oNe : OpK := ⟨fNe, kNe, fun d1 d2 K h => by
  unfold kNe at h
  split at h
  · exact ⟨_, f_ne_int, h⟩
  · exact ⟨_, f_ne_str, h⟩
  · exact ne_ok h⟩
def kLt : D → D → (R → Prop) → Prop
  | .int i, .int j, K => K (.val (.bool (decide (i < j))))
  | .str a, .str b, K => K (.val (.bool (decide (a.cps.toList < b.cps.toList))))
  | _, _, _ => False
def oLt : OpK := ⟨fLt, kLt, fun d1 d2 K h => by
  cases d1 <;> cases d2 <;> first
    | exact h.elim
    | exact ⟨_, rfl, h⟩⟩
def kGt : D → D → (R → Prop) → Prop
  | .int i, .int j, K => K (.val (.bool (decide (j < i))))
  | _, _, _ => False
def oGt : OpK := ⟨fGt, kGt, fun d1 d2 K h => by
  cases d1 <;> cases d2 <;> first
    | exact h.elim
    | exact ⟨_, rfl, h⟩⟩
def kGe : D → D → (R → Prop) → Prop
  | .int i, .int j, K => K (.val (.bool (decide (j ≤ i))))
  | _, _, _ => False
def oGe : OpK := ⟨fGe, kGe, fun d1 d2 K h => by
  cases d1 <;> cases d2 <;> first
    | exact h.elim
    | exact ⟨_, rfl, h⟩⟩
def kInB (neg : Bool) (x y : D) (K : R → Prop) : Prop := match y with
  | .str b => match x with
    | .str a => K (.val (.bool (xor neg (strIn a b))))
    | _ => False
  | .list ds => rqB ((flatD x && ds.all flatD) || (SeqAt.shaped x && SeqAt.shaped (.list ds))) (K (.val (.bool (xor neg (flatIn x ds)))))
  | .tuple ds => rqB (flatD x && ds.all flatD) (K (.val (.bool (xor neg (flatIn x ds)))))
  | _ => False
theorem xor_if (neg b : Bool) : (if neg = true then !b else b) = xor neg b := by cases neg <;> cases b <;> rfl
theorem inB_ok (neg : Bool) (x y : D) (K : R → Prop) (h : kInB neg x y K) : ∃ z, fInB neg x y = some z ∧ K z := by
  unfold kInB at h
  unfold fInB
  split at h
  · split at h
    · exact ⟨_, by simp only [xor_if], h⟩
    · exact h.elim
  · obtain ⟨h1, h2⟩ := rqB.ex h
    rw [Bool.or_eq_true] at h1
    refine ⟨_, ?_, h2⟩
    simp only [xor_if]
    split
    · rfl
    · rename_i n
      rcases h1 with h1 | h1
      · exact absurd h1 n
      · rw [if_pos h1]
  · obtain ⟨h1, h2⟩ := rqB.ex h
    exact ⟨_, by simp only [h1, if_true, xor_if], h2⟩
  · exact h.elim
def oIn : OpK := ⟨fIn, kInB false, inB_ok false⟩
def oNotIn : OpK := ⟨fNotIn, kInB true, inB_ok true⟩
def kIsB (neg : Bool) (a b : D) (K : R → Prop) : Prop := match b with
  | .none => K (.val (.bool (xor neg (isNone a))))
  | .bool y => match a with
    | .bool x => K (.val (.bool (xor neg (decide (x = y)))))
    | _ => False
  | _ => False
theorem isB_ok (neg : Bool) (x y : D) (K : R → Prop) (h : kIsB neg x y K) : ∃ z, fIsB neg x y = some z ∧ K z := by
  unfold kIsB at h
  unfold fIsB
  split at h
  · exact ⟨_, by simp only [xor_if], h⟩
  · split at h
    · exact ⟨_, by simp only [xor_if], h⟩
    · exact h.elim
  · exact h.elim
def oIs : OpK := ⟨fIs, kIsB false, isB_ok false⟩
end DL
namespace DL
open PySem L2 PyProof.Rows
abbrev PoB := Bool → Rho → Prop
abbrev MT := Rho → PoB → Prop
def TB (K : Fg) (e : En) (m : MT) : TT := fun s H Q => ∃ F r, Ok K e F r s H ∧ ∃ P : PoB, m r P ∧ ∀ b r' F' H', P b r' → Ok K e F' r' s H' → Sub F F' → Q b H'
def DT (X : Cx) (a : Expr) (m : MT) : Prop := ∀ e, PT X a (TB X.K e m)
theorem PT.imp {X : Cx} {a : Expr} {t u : TT} (h : PT X a t) (i : ∀ s H Q, u s H Q → t s H Q) : PT X a u := ⟨fun pins s σ H Q I q => h.run pins s σ H Q I (i _ _ _ q)⟩
def DW (X : Cx) (a : Expr) (m : MT) : Prop := ∀ e, PW X a (TB X.K e m)
theorem PW.imp {X : Cx} {a : Expr} {t u : TT} (h : PW X a t) (i : ∀ s H Q, u s H Q → t s H Q) : PW X a u := ⟨fun wh pins s σ H Q I q => h.run wh pins s σ H Q I (i _ _ _ q)⟩
def truth : D → Option Bool
  | .none => some false
  | .bool b => some b
  | .int i => some (i != 0)
  | .str x => if x.length ≤ sizeLine then some ((x.length : Int) != 0) else none
  | .list ds => some (!ds.isEmpty)
  | .tuple ds => some (!ds.isEmpty)
  | .dict _ => none
theorem RpA.isEmpty {K : Fg} {F : Hp} {vs : List V} {ds : List D} (h : RpA K F vs ds) : vs.isEmpty = ds.isEmpty := by cases h <;> rfl
theorem Lk.tru {K : Fg} {F H : Hp} {v : V} {d : D} {b : Bool} (h : Lk K F H v d) (q : Sub F H) (t : truth d = some b) : TruV K v H b := by
  cases d with
  | none => cases t; rw [h.non]; exact rfl
  | bool b => cases t; rw [h.bl]; exact rfl
  | int i => cases t; rw [h.int]; exact rfl
  | str x =>
    simp only [truth] at t
    split at t
    · rename_i hz; cases t; rw [h.str]; exact ⟨hz, rfl⟩
    · cases t
  | list ds =>
    cases t
    obtain ⟨a, xs, e, h1, r⟩ := h.lst q
    subst e
    exact .inl ⟨xs, .inl h1, by rw [r.isEmpty]⟩
  | tuple ds =>
    cases t
    obtain ⟨a, xs, e, h1, r, _⟩ := h.tup q
    subst e
    exact .inr (.inl ⟨xs, h1, by rw [r.isEmpty]⟩)
  | dict ds => cases t
def KTru (P : PoB) (x : R) (r : Rho) : Prop := onO (look r x) fun d => onO (truth d) fun b => P b r
theorem KTru.ex {P : PoB} {x : R} {r : Rho} (h : KTru P x r) : ∃ d b, look r x = some d ∧ truth d = some b ∧ P b r := by
  obtain ⟨d, e1, h1⟩ := onO.ex h
  obtain ⟨b, e2, h2⟩ := onO.ex h1
  exact ⟨d, b, e1, e2, h2⟩
def mTru (m : ME) : MT := fun r P => m r fun x r' => KTru P x.tmp r'
section
variable {X : Cx} {a b c : Expr} {ma mb mc : ME} {pos : Pos}
theorem dt_of (h : DE X a ma) (he : ∀ whole, isTrue a X.env whole = (do let v ← whole; standAt a.pos; holding [v] (truthy v)) := by intro _; rfl) : DT X a (mTru ma) := fun e =>
  PT.imp (pt_truth (h.tmp e) he) fun s H Q ⟨F, r, k, P, hm, hP⟩ => ⟨F, r, k, fun x r' => KTru P x r', hm, fun x r' v F' H' hx k' q' t => by
    obtain ⟨d, b, e1, e2, hp⟩ := KTru.ex hx
    exact ⟨b, (t.look k' e1).tru k'.sub e2, hP b r' F' H' hp k' q'⟩⟩
/-- a bool's value -/
def blOf : R → Option Bool
  | .val (.bool b) => some b
  | _ => none
def mTest (m : ME) : MT := fun r P => m r fun x r' => onO (blOf x) fun b => P b r'
theorem blOf_of {x : R} {b : Bool} (h : blOf x = some b) : x = .val (.bool b) := by
  unfold blOf at h
  split at h
  · cases h; rfl
  · cases h
theorem tTest_of {K : Fg} {e : En} {m : ME} {t : TE} (i : ∀ s H Q, T K e m s H Q → t s H Q) {s : L2.St} {H : Hp} {Q : Bool → Hp → Prop} (h : TB K e (mTest m) s H Q) : tTest t s H Q := by
  obtain ⟨F, r, k, P, hm, hP⟩ := h
  refine i s H _ ⟨F, r, k, _, hm, fun x r' v F' H' hx k' q' t => ?_⟩
  obtain ⟨b, e1, hp⟩ := onO.ex hx
  have := blOf_of e1
  subst this
  cases t with | val a => cases a; exact ⟨b, rfl, hP b r' F' H' hp k' q'⟩
theorem dt_cmp {op : CmpOp} {o : OpK} (ho : OpD X (compareOp op) o.f) (ha : DE X a ma) (hb : DE X b mb) (hm : behindInMarks op b = false) : DT X (.Compare a [op] [b] pos) (mTest (mOp o ma mb)) := fun e => by
  obtain ⟨rr, hr, hq⟩ := ho
  exact PT.imp (pt_cmpR hr (ha.tmp e) (hb.tmp e) hm) fun s H Q h => tTest_of (fun s H Q h => mOp_read hq h) h
variable {ta tb : MT} {rest : List Expr}
def bAnd (t u : MT) : MT := fun r P => t r fun b r1 => brK b (u r1 P) (P false r1)
def bOr (t u : MT) : MT := fun r P => t r fun b r1 => brK b (P true r1) (u r1 P)
def bNot (t : MT) : MT := fun r P => t r fun b r1 => P (!b) r1
theorem dw_and1 (ha : DT X a ta) : DW X (.BoolOp .And [a] pos) ta := fun e => pw_and1 (ha e)
theorem dw_or1 (ha : DT X a ta) : DW X (.BoolOp .Or [a] pos) ta := fun e => pw_or1 (ha e)
theorem dw_and (ha : DT X a ta) (hb : DW X (.BoolOp .And (b :: rest) pos) tb) : DW X (.BoolOp .And (a :: b :: rest) pos) (bAnd ta tb) := fun e =>
  PW.imp (pw_and (ha e) (hb e)) fun s H Q ⟨F, r, k, P, hm, hP⟩ => ⟨F, r, k, _, hm, fun c r1 F1 H1 hc k1 q1 => by
    cases c with
    | true => rw [if_pos rfl]; exact ⟨F1, r1, k1, P, hc, fun b r' F' H' hp k' q' => hP b r' F' H' hp k' (q1.trans q')⟩
    | false => rw [if_neg Bool.false_ne_true]; exact hP _ r1 F1 H1 hc k1 q1⟩
theorem dw_or (ha : DT X a ta) (hb : DW X (.BoolOp .Or (b :: rest) pos) tb) : DW X (.BoolOp .Or (a :: b :: rest) pos) (bOr ta tb) := fun e =>
  PW.imp (pw_or (ha e) (hb e)) fun s H Q ⟨F, r, k, P, hm, hP⟩ => ⟨F, r, k, _, hm, fun c r1 F1 H1 hc k1 q1 => by
    cases c with
    | true => rw [if_pos rfl]; exact hP _ r1 F1 H1 hc k1 q1
    | false => rw [if_neg Bool.false_ne_true]; exact ⟨F1, r1, k1, P, hc, fun b r' F' H' hp k' q' => hP b r' F' H' hp k' (q1.trans q')⟩⟩
theorem dt_w (h : DW X a ta) : DT X a ta := fun e => (h e).pt
theorem dt_not (h : DT X a ta) : DT X (.UnaryOp .Not a pos) (bNot ta) := fun e =>
  PT.imp (pt_not (h e)) fun s H Q ⟨F, r, k, P, hm, hP⟩ => ⟨F, r, k, _, hm, fun b r' F' H' hp k' q' => hP (!b) r' F' H' hp k' q'⟩
def mAnd (ma mb : ME) : ME := fun r P => ma r fun x r1 => KTru (fun b r1 => brK b (mb r1 P) (P x.tmp r1)) x.tmp r1
theorem RT.rr {K : Fg} {e : En} {F : Hp} {r : Rho} {s : L2.St} {H : Hp} {x : R} {v : V} {d : D} (h : RT K F s x v) (k : Ok K e F r s H) (q : DL.look r x = some d) : RR K e F r s H x v := by
  cases h with
  | val a => exact .val a
  | @bor i v a =>
    simp only [DL.look] at q
    split at q
    · rename_i z; exact .bor a ⟨_, _, z⟩
    · cases q
  | ob a => cases q
  | adr => cases q
theorem de_one {op : BoolOp} (ha : DE X a ma) : DE X (.BoolOp op [a] pos) ma := fun e => pe_one (ha e)
theorem de_and (ha : DE X a ma) (hb : DE X (.BoolOp .And (b :: rest) pos) mb) : DE X (.BoolOp .And (a :: b :: rest) pos) (mAnd ma mb) := fun e =>
  PE.imp (pe_andT (ha.tmp e) (hb e)) fun s H Q ⟨F, r, k, P, hm, hP⟩ => ⟨F, r, k, fun x r1 => KTru (fun b r1 => brK b (mb r1 P) (P x r1)) x r1, hm, fun x r1 v F1 H1 hx k1 q1 t1 => by
    obtain ⟨d, b, e1, e2, hc⟩ := KTru.ex hx
    refine ⟨b, (t1.look k1 e1).tru k1.sub e2, ?_⟩
    cases b with
    | true => rw [if_pos rfl]; exact ⟨F1, r1, k1, P, hc, fun x r' v F' H' hp k' q' hr => hP x r' v F' H' hp k' (q1.trans q') hr⟩
    | false => rw [if_neg Bool.false_ne_true]; exact hP x r1 v F1 H1 hc k1 q1 (t1.rr k1 e1)⟩
def mIf (t : MT) (ma mb : ME) : ME := fun r P => t r fun b r1 => brK b (ma r1 P) (mb r1 P)
theorem de_if (hc : DT X c ta) (ha : DE X a ma) (hb : DE X b mb) : DE X (.IfExp c a b pos) (mIf ta ma mb) := fun e =>
  PE.imp (pe_ifExp (hc e) (ha e) (hb e)) fun s H Q ⟨F, r, k, P, hm, hP⟩ => ⟨F, r, k, _, hm, fun c r1 F1 H1 hc k1 q1 => by
    cases c with
    | true => rw [if_pos rfl]; exact ⟨F1, r1, k1, P, hc, fun x r' v F' H' hp k' q' hr => hP x r' v F' H' hp k' (q1.trans q') hr⟩
    | false => rw [if_neg Bool.false_ne_true]; exact ⟨F1, r1, k1, P, hc, fun x r' v F' H' hp k' q' hr => hP x r' v F' H' hp k' (q1.trans q') hr⟩⟩
/-- an int -/
def inOf : R → Option Int
  | .val (.int i) => some i
  | _ => none
theorem inOf_of {x : R} {i : Int} (h : inOf x = some i) : x = .val (.int i) := by
  unfold inOf at h
  split at h
  · cases h; rfl
  · cases h
def mNeg (ma : ME) : ME := fun r P => ma r fun x r1 => onO (inOf x) fun i => P (.val (.int (-i))) r1
theorem de_neg (ha : DE X a ma) : DE X (.UnaryOp .USub a pos) (mNeg ma) := fun e =>
  PE.imp (pe_un un_neg (ha e)) fun s H Q ⟨F, r, k, P, hm, hP⟩ => ⟨F, r, k, _, hm, fun x r1 v F1 H1 hx k1 q1 t1 => by
    obtain ⟨i, ei, hc⟩ := onO.ex hx
    have e1 := inOf_of ei
    subst e1
    cases t1 with | val a => cases a; exact ⟨i, rfl, hP _ r1 _ F1 H1 hc k1 q1 (.val (.int _))⟩⟩
end
end DL
namespace DL
open PySem L2 PyProof.Rows
abbrev PoA := List R → Rho → Prop
abbrev MA := Rho → PoA → Prop
inductive RTs (K : Fg) (F : Hp) (s : L2.St) : List R → List V → Prop
  | nil : RTs K F s [] []
  | cons {x : R} {v : V} {xs : List R} {vs : List V} : RT K F s x v → RTs K F s xs vs → RTs K F s (x :: xs) (v :: vs)
theorem RTs.mono {K : Fg} {F F' : Hp} {s : L2.St} {xs : List R} {vs : List V} (h : RTs K F s xs vs) (q : Sub F F') : RTs K F' s xs vs := by
  induction h with
  | nil => exact .nil
  | cons a _ ih => exact .cons (a.mono q) ih
def TAl (K : Fg) (e : En) (m : MA) : TA := fun s H Q => ∃ F r, Ok K e F r s H ∧ ∃ P : PoA, m r P ∧ ∀ xs r' vs F' H', P xs r' → Ok K e F' r' s H' → Sub F F' → RTs K F' s xs vs → Q vs H'
def DA (X : Cx) (as : List Expr) (m : MA) : Prop := ∀ e, PA X as (TAl X.K e m)
theorem PA.imp {X : Cx} {a : List Expr} {t u : TA} (h : PA X a t) (i : ∀ s H Q, u s H Q → t s H Q) : PA X a u := ⟨fun pos pins s σ H Q I q => h.run pos pins s σ H Q I (i _ _ _ q)⟩
def aNil : MA := fun r P => P [] r
def aCons (m : ME) (ms : MA) : MA := fun r P => m r fun x r1 => ms r1 fun xs r2 => P (x.tmp :: xs) r2
def looks (r : Rho) : List R → Option (List D)
  | [] => some []
  | x :: xs => match look r x, looks r xs with
    | some d, some ds => some (d :: ds)
    | _, _ => none
/-- values that look like data -/
inductive LkA (K : Fg) (F H : Hp) : List V → List D → Prop
  | nil : LkA K F H [] []
  | cons {v : V} {d : D} {vs : List V} {ds : List D} : Lk K F H v d → LkA K F H vs ds → LkA K F H (v :: vs) (d :: ds)
theorem RTs.looks {K : Fg} {e : En} {F : Hp} {r : Rho} {s : L2.St} {H : Hp} {xs : List R} {vs : List V} {ds : List D} (h : RTs K F s xs vs) (k : Ok K e F r s H) (q : DL.looks r xs = some ds) : LkA K F H vs ds := by
  induction h generalizing ds with
  | nil => cases q; exact .nil
  | cons a _ ih =>
    simp only [DL.looks] at q
    split at q
    · rename_i e1 e2; cases q; exact .cons (a.look k e1) (ih e2)
    · cases q
section
variable {X : Cx} {a b c : Expr} {ma mb mc : ME} {pos : Pos} {es : List Expr} {ms : MA}
theorem da_nil : DA X [] aNil := fun e => PA.imp pa_nil fun s H Q ⟨F, r, k, P, hm, hP⟩ => hP _ r _ F H hm k (Sub.refl F) .nil
theorem da_cons (ha : DE X a ma) (hr : DA X es ms) (hs : starEach (a :: es) X.env = (false, eval a X.env) :: starEach es X.env := by rfl) : DA X (a :: es) (aCons ma ms) := fun e =>
  PA.imp (pa_cons (ha.tmp e) (hr e) hs) fun s H Q ⟨F, r, k, P, hm, hP⟩ => ⟨F, r, k, fun x r1 => ms r1 fun xs r2 => P (x :: xs) r2, hm, fun x r1 v F1 H1 hx k1 q1 t1 =>
    ⟨F1, r1, k1, _, hx, fun xs r2 vs F2 H2 hxs k2 q2 t2 => hP _ r2 _ F2 H2 hxs k2 (q1.trans q2) (.cons (t1.mono q2) t2)⟩⟩
/-- x is held: its datum, the cells behind it -/
def hold (r : Rho) : R → Option (D × Rho)
  | .val d => some (d, r)
  | .own m => some (m.toD, r)
  | .bor i => match r[i]? with
    | some (some (.box false m)) => some (m.toD, r.set i (some (.val m.toD)))
    | _ => none
  | .ob _ => none
  | .adr _ _ => none
def holds (r : Rho) : List R → Option (List D × Rho)
  | [] => some ([], r)
  | x :: xs => match hold r x with
    | some (d, r1) => match holds r1 xs with
      | some (ds, r2) => some (d :: ds, r2)
      | none => none
    | none => none
end
section
variable {K : Fg} {e : En} {F : Hp} {r : Rho} {s : L2.St} {H : Hp}
theorem get_set {α : Type} {l : List α} {i j : Nat} {x y : α} (h : (l.set i x)[j]? = some y) : (i = j ∧ x = y) ∨ (i ≠ j ∧ l[j]? = some y) := by
  by_cases q : i = j
  · subst q
    have hl : i < l.length := by
      have := (List.getElem?_eq_some_iff.mp h).1
      simpa using this
    rw [List.getElem?_set_self hl] at h
    exact .inl ⟨rfl, Option.some.inj h⟩
  · rw [List.getElem?_set_ne q] at h
    exact .inr ⟨q, h⟩
/-- a box becomes a datum -/
theorem Ok.freezeBox {i : Nat} {m : MB} (k : Ok K e F r s H) (h : r[i]? = some (some (Ce.box false m))) : ∃ F' v, Ok K e F' (r.set i (some (.val m.toD))) s H ∧ Sub F F' ∧ s[i]? = some (some v) ∧ Rp K F' v m.toD := by
  obtain ⟨p, o, h1, h2, h3, h4, h5, h6⟩ := k.box i false m h
  have rp : Rp K (upd F p o) (.ref p) m.toD := h3.rp (Sub.new h4) upd_same
  have nb : ∀ (j : Nat) b m', r[j]? = some (some (Ce.box b m')) → s[j]? = some (some (V.ref p)) → j = i := fun j b m' z y => k.sep j i p b m' false m z h y h1
  refine ⟨upd F p o, .ref p, ⟨by rw [List.length_set]; exact k.len, ?_, ?_, k.prot, ?_, k.dom, ?_, ?_, ?_, ?_, ?_, ?_, ?_⟩, Sub.new h4, h1, rp⟩
  · intro a u q
    by_cases z : a = p
    · subst z; rw [upd_same] at q; cases q; exact h2
    · rw [upd_ne z] at q; exact k.sub a u q
  · exact k.f0.trans (Sub.new h4)
  · intro a u q
    by_cases z : a = p
    · subst z; exact .inr (.inl h5)
    · rw [upd_ne z] at q; exact k.new a u q
  · intro j d z
    rcases get_set z with ⟨e1, e2⟩ | ⟨e1, e2⟩
    · cases e2; subst e1; exact ⟨_, h1, rp⟩
    · obtain ⟨v, g1, g2⟩ := k.slot j d e2
      exact ⟨v, g1, g2.mono (Sub.new h4)⟩
  · intro j b m' z
    rcases get_set z with ⟨e1, e2⟩ | ⟨e1, e2⟩
    · cases e2
    · obtain ⟨q, u, g1, g2, g3, g4, g5, g6⟩ := k.box j b m' e2
      have ne : q ≠ p := fun y => by subst y; exact e1 (nb j b m' e2 g1).symm
      exact ⟨q, u, g1, g2, g3.mono (Sub.new h4), by rw [upd_ne ne]; exact g4, g5, g6⟩
  · intro j ns z
    rcases get_set z with ⟨e1, e2⟩ | ⟨e1, e2⟩
    · cases e2
    · obtain ⟨a, g1, g2⟩ := k.ob j ns e2
      exact ⟨a, g1, g2.mono (Sub.new h4)⟩
  · intro j1 j2 q b m' b' m'' z1 z2
    rcases get_set z1 with ⟨_, e2⟩ | ⟨_, e2⟩
    · cases e2
    · rcases get_set z2 with ⟨_, e4⟩ | ⟨_, e4⟩
      · cases e4
      · exact k.sep j1 j2 q b m' b' m'' e2 e4
  · intro j n a z
    rcases get_set z with ⟨e1, e2⟩ | ⟨e1, e2⟩
    · cases e2
    · exact k.adr j n a e2
  · intro j G z
    rcases get_set z with ⟨e1, e2⟩ | ⟨e1, e2⟩
    · cases e2
    · obtain ⟨g1, g2, g3⟩ := k.gh j G e2
      refine ⟨g1.move (Sub.new h4) (fun q _ u w => w) (fun q w => ?_) fun q w => ⟨(g1.fr q w).2.1, (g1.fr q w).2.2.1⟩, fun j2 b' m' q z' => ?_, fun j2 G' z' => ?_⟩
      · rw [upd_ne (fun y => by subst y; exact g2 i false m q h h1 w)]
        exact (g1.fr q w).1
      · rcases get_set z' with ⟨_, e4⟩ | ⟨_, e4⟩
        · cases e4
        · exact g2 j2 b' m' q e4
      · rcases get_set z' with ⟨_, e4⟩ | ⟨_, e4⟩
        · cases e4
        · exact g3 j2 G' e4
  · intro q w
    rw [upd_ne (fun y => by subst y; exact h6.1 rfl (k.gpF q w).2)]
    exact k.gpF q w
/-- what was looked at before a freezing is what it was -/
theorem RT.hold {x : R} {v : V} {d : D} {r1 : Rho} (t : RT K F s x v) (k : Ok K e F r s H) (q : DL.hold r x = some (d, r1)) : ∃ F', Ok K e F' r1 s H ∧ Sub F F' ∧ Rp K F' v d := by
  cases t with
  | val a => cases q; exact ⟨F, k, Sub.refl F, a⟩
  | @bor i v a =>
    simp only [DL.hold] at q
    split at q
    · rename_i z; cases q
      obtain ⟨F', v', k', s', g1, g2⟩ := k.freezeBox z
      rw [a] at g1; cases g1
      exact ⟨F', k', s', g2⟩
    · cases q
  | ob _ => cases q
  | adr => cases q
theorem RTs.holds {xs : List R} : ∀ {F : Hp} {r : Rho} {vs : List V} {ds : List D} {r1 : Rho}, RTs K F s xs vs → Ok K e F r s H → DL.holds r xs = some (ds, r1) → ∃ F', Ok K e F' r1 s H ∧ Sub F F' ∧ RpA K F' vs ds := by
  induction xs with
  | nil => intro F r vs ds r1 t k q; cases t; cases q; exact ⟨F, k, Sub.refl F, .nil⟩
  | cons x xs ih =>
    intro F r vs ds r1 t k q
    cases t with
    | cons a t =>
      simp only [DL.holds] at q
      split at q
      · rename_i e1
        split at q
        · rename_i e2; cases q
          obtain ⟨F1, k1, s1, p1⟩ := a.hold k e1
          obtain ⟨F2, k2, s2, p2⟩ := ih (t.mono s1) k1 e2
          exact ⟨F2, k2, s1.trans s2, .cons (p1.mono s2) p2⟩
        · cases q
      · cases q
end
section
variable {X : Cx} {a b c : Expr} {ma mb mc : ME} {pos : Pos} {es : List Expr} {ms : MA}
def mTup (ms : MA) : ME := fun r P => ms r fun xs r1 => onP (holds r1 xs) fun qa qb => Rq (qa.length ≤ sizeLine) (P (.val (.tuple qa)) qb)
def mLst (ms : MA) : ME := fun r P => ms r fun xs r1 => onP (holds r1 xs) fun qa qb => Rq (qa.length ≤ sizeLine) (P (.own (.L qa)) qb)
theorem de_tup {x1} (h : DA X es ms) : DE X (.Tuple es x1 pos) (mTup ms) := fun e =>
  PE.imp (pe_tupZ (h e)) fun s H Q ⟨F, r, k, P, hm, hP⟩ => ⟨F, r, k, _, hm, fun xs r1 vs F1 H1 hx k1 q1 t1 => by
    obtain ⟨ds, r2, hh, hq⟩ := onP.ex hx
    have hz := Rq.c hq
    have hp := Rq.a hq
    obtain ⟨F2, k2, q2, p2⟩ := t1.holds k1 hh
    exact ⟨by rw [p2.length]; exact hz, fun p o np nd => hP _ r2 _ _ _ hp (k2.lay np) ((q1.trans q2).trans (Sub.new (k2.free np).1)) (.newT k2 np nd p2)⟩⟩
theorem de_lst (h : DA X es ms) : DE X (.List es pos) (mLst ms) := fun e =>
  PE.imp (pe_lst (h e)) fun s H Q ⟨F, r, k, P, hm, hP⟩ => ⟨F, r, k, _, hm, fun xs r1 vs F1 H1 hx k1 q1 t1 => by
    obtain ⟨ds, r2, hh, hq⟩ := onP.ex hx
    have hz := Rq.c hq
    have hp := Rq.a hq
    obtain ⟨F2, k2, q2, p2⟩ := t1.holds k1 hh
    exact ⟨by rw [p2.length]; exact hz, fun p np => hP _ r2 _ _ _ hp (k2.alloc np) (q1.trans q2) (.newL k2 np p2)⟩⟩
def fIx : F2
  | .list ds, .int i => match atI ds i with
    | some d => some (.val d)
    | none => none
  | .tuple ds, .int i => match atI ds i with
    | some d => some (.val d)
    | none => none
  | .str x, .int i => if x.length ≤ sizeLine then match atI x.cps.toList i with
    | some c => some (.val (.str ⟨#[c]⟩))
    | none => none
    else none
  | _, _ => none
theorem RpA.at {K : Fg} {F : Hp} {vs : List V} {ds : List D} {i : Int} {d : D} (h : RpA K F vs ds) (q : atI ds i = some d) : ∃ v, atI vs i = some v ∧ Rp K F v d := by
  unfold atI at q ⊢
  rw [h.length]
  cases z : ixN ds.length i with
  | none => rw [z] at q; cases q
  | some j =>
    rw [z] at q
    obtain ⟨v, e1, e2⟩ := h.getD (show ds[j]? = some d from q)
    exact ⟨v, e1, e2⟩
abbrev MO' := Rho → (Option Int → Rho → Prop) → Prop
def TOp (K : Fg) (e : En) (m : MO') : TO := fun s H Q => ∃ F r, Ok K e F r s H ∧ ∃ P : Option Int → Rho → Prop, m r P ∧ ∀ o r' F' H', P o r' → Ok K e F' r' s H' → Sub F F' → Q o H'
def DO (X : Cx) (a : Option Expr) (m : MO') : Prop := ∀ e, PO X a (TOp X.K e m)
theorem PO.imp {X : Cx} {a : Option Expr} {t u : TO} (h : PO X a t) (i : ∀ s H Q, u s H Q → t s H Q) : PO X a u := ⟨fun pins s σ H Q I q => h.run pins s σ H Q I (i _ _ _ q)⟩
def oNone : MO' := fun r P => P none r
def oSome (m : ME) : MO' := fun r P => m r fun x r1 => onO (inOf x) fun i => P (some i) r1
theorem do_none : DO X none oNone := fun e => PO.imp po_none fun s H Q ⟨F, r, k, P, hm, hP⟩ => hP _ r F H hm k (Sub.refl F)
theorem do_some (ha : DE X a ma) : DO X (some a) (oSome ma) := fun e => PO.imp (po_some (ha e)) fun s H Q ⟨F, r, k, P, hm, hP⟩ => ⟨F, r, k, _, hm, fun x r1 v F1 H1 hx k1 q1 t1 => by
  obtain ⟨i, ei, hc⟩ := onO.ex hx
  have e1 := inOf_of ei
  subst e1
  cases t1 with | val a => cases a; exact ⟨i, rfl, hP _ r1 F1 H1 hc k1 q1⟩⟩
def cutD (xs : List D) (lo hi : Option Int) : List D := (xs.drop (HT.sIx xs.length 0 lo)).take (HT.sIx xs.length xs.length hi - HT.sIx xs.length 0 lo)
theorem RpA.cut {K : Fg} {F : Hp} {vs : List V} {ds : List D} (h : RpA K F vs ds) (lo hi : Option Int) : RpA K F (cutV vs lo hi) (cutD ds lo hi) := by
  unfold cutV cutD
  rw [h.length]
  exact (h.drop _).take _
def fSl (d : D) (lo hi : Option Int) : Option R := match d with
  | .list ds => some (.own (.L (cutD ds lo hi)))
  | .tuple ds => some (.val (.tuple (cutD ds lo hi)))
  | .str x => if x.length ≤ sizeLine then some (.val (.str (cutS x lo hi))) else none
  | _ => none
def kSl (d : D) (lo hi : Option Int) (K : R → Prop) : Prop := match d with
  | .list ds => K (.own (.L (cutD ds lo hi)))
  | .tuple ds => K (.val (.tuple (cutD ds lo hi)))
  | .str x => Rq (x.length ≤ sizeLine) (K (.val (.str (cutS x lo hi))))
  | _ => False
theorem kSl.ex {d : D} {lo hi : Option Int} {K : R → Prop} (h : kSl d lo hi K) : ∃ z, fSl d lo hi = some z ∧ K z := by
  cases d <;> first
    | exact h.elim
    | exact ⟨_, rfl, h⟩
    | exact ⟨_, rq_if h, Rq.a h⟩
def mSl (ma : ME) (ml mh : MO') : ME := fun r P => ma r fun x r1 => ml r1 fun l r2 => mh r2 fun h r3 => onO (look r3 x.tmp) fun d => kSl d l h fun z => P z r3
theorem cutD_whole {ds : List D} {lo hi : Option Int} (h : HT.sIx ds.length 0 lo = 0 ∧ HT.sIx ds.length ds.length hi = ds.length) : cutD ds lo hi = ds := by
  unfold cutD
  rw [h.1, h.2, List.drop_zero, Nat.sub_zero, List.take_length]
variable {lo hi : Option Expr} {ml mh : MO'} {p2 : Pos}
theorem de_slice (ha : DE X a ma) (hl : DO X lo ml) (hh : DO X hi mh) : DE X (.Subscript a (.Slice lo hi none p2) pos) (mSl ma ml mh) := fun e =>
  PE.imp (pe_slice (SlR.or sl_list (SlR.or sl_tupZ sl_str)) (ha.tmp e) (hl e) (hh e)) fun s H Q ⟨F, r, k, P, hm, hP⟩ => ⟨F, r, k, fun x r1 => ml r1 fun l r2 => mh r2 fun h r3 => onO (look r3 x) fun d => kSl d l h fun z => P z r3, hm, fun x r1 v F1 H1 hx k1 q1 t1 =>
    ⟨F1, r1, k1, _, hx, fun l r2 F2 H2 hx2 k2 q2 => ⟨F2, r2, k2, _, hx2, fun h r3 F3 H3 hx3 k3 q3 => by
      obtain ⟨d, e1, hx4⟩ := onO.ex hx3
      obtain ⟨z, ef, hp⟩ := kSl.ex hx4
      have lk := ((t1.mono q2).mono q3).look k3 e1
      have q := (q1.trans q2).trans q3
      unfold fSl at ef
      split at ef
      · cases ef
        obtain ⟨p, xs, g1, g2, g3⟩ := lk.lst k3.sub
        exact .inl ⟨p, xs, g1, .inl g2, fun p np => hP _ r3 _ F3 _ hp (k3.alloc np) q (.newL k3 np (g3.cut l h))⟩
      · cases ef
        obtain ⟨p, xs, g1, g2, g3, g4⟩ := lk.tup k3.sub
        refine .inr (.inl ⟨p, xs, g1, g2, fun hw => ?_, fun _ p o np nd => hP _ r3 _ _ _ hp (k3.lay np) (q.trans (Sub.new (k3.free np).1)) (.newT k3 np nd (g3.cut l h))⟩)
        rw [g3.length] at hw
        rw [cutD_whole hw] at hp
        subst g1
        exact hP _ r3 _ F3 H3 hp k3 q (.val g4)
      · split at ef
        · rename_i hz; cases ef
          exact .inr (.inr ⟨_, lk.str, hz, hP _ r3 _ F3 H3 hp k3 q (.val (.str _))⟩)
        · cases ef
      · cases ef⟩⟩⟩
abbrev FA := List D → Option R
def CallD (X : Cx) (g : Value) (f : FA) : Prop := ∃ rr : List V → Hp → VK → Prop, CallR X g rr ∧ ∀ (e : En) (F : Hp) (r : Rho) (s : L2.St) (H : Hp) (vs : List V) (ds : List D) (z : R) (Q : VK),
  Ok X.K e F r s H → LkA X.K F H vs ds → f ds = some z → (∀ v F' H', Ok X.K e F' r s H' → Sub F F' → RR X.K e F' r s H' z v → Q v H') → rr vs H Q
theorem CallR.or {g : Value} {a b : List V → Hp → VK → Prop} (h : CallR X g a) (h' : CallR X g b) : CallR X g (fun x H Q => a x H Q ∨ b x H Q) := fun pins s σ H x v Q I rx q =>
  q.elim (h pins s σ H x v Q I rx) (h' pins s σ H x v Q I rx)
/-- a built-in and what it does, told so that it runs -/
structure CaK where
  f : FA
  k : List D → (R → Prop) → Prop
  ok : ∀ ds K, k ds K → ∃ z, f ds = some z ∧ K z
def mCall (o : CaK) (ms : MA) : ME := fun r P => ms r fun xs r1 => onO (looks r1 xs) fun ds => o.k ds fun z => P z r1
theorem call_read {e : En} {o : CaK} {rr : List V → Hp → VK → Prop} (hq : ∀ (e : En) (F : Hp) (r : Rho) (s : L2.St) (H : Hp) (vs : List V) (ds : List D) (z : R) (Q : VK),
    Ok X.K e F r s H → LkA X.K F H vs ds → o.f ds = some z → (∀ v F' H', Ok X.K e F' r s H' → Sub F F' → RR X.K e F' r s H' z v → Q v H') → rr vs H Q)
    {s : L2.St} {H : Hp} {Q : VK} (h : T X.K e (mCall o ms) s H Q) : tCB rr (TAl X.K e ms) s H Q := by
  obtain ⟨F, r, k, P, hm, hP⟩ := h
  refine ⟨F, r, k, _, hm, fun xs r1 vs F1 H1 hx k1 q1 t1 => ?_⟩
  obtain ⟨ds, e1, hx2⟩ := onO.ex hx
  obtain ⟨z, ef, hp⟩ := o.ok _ _ hx2
  exact hq e F1 r1 s H1 vs ds z Q k1 (t1.looks k1 e1) ef fun v F' H' k' q' hr => hP z r1 v F' H' hp k' (q1.trans q') hr
variable {x : Str} {p : Pos} {id : String}
theorem de_callB {o : CaK} (hc : CallD X (.builtin id) o.f) (hg : Gl X x) (hm : X.mg x = none) (hv : bootBuiltins x = some (.builtin id)) (ha : DA X (a :: es) ms) (hn : x ≠ "__name__" := by decide) (hdb : (x == ("__debug__" : Str)) = false := by decide)
    (he : starEach (a :: es) X.env = (false, eval a X.env) :: starEach es X.env := by rfl) (hpl : (backTo pos (starEach es X.env)).any (·.1) = false := by rfl) : DE X (.Call (.Name x p) (a :: es) [] pos) (mCall o ms) := fun e => by
  obtain ⟨rr, hr, hq⟩ := hc
  exact PE.imp (pe_callB hr hg hm hv (ha e) hn hdb he hpl) fun s H Q h => call_read hq h
theorem de_callTy {o : CaK} {T : String} (hc : CallD X (.type T) o.f) (hg : Gl X x) (hm : X.mg x = none) (hv : bootBuiltins x = some (.type T)) (ha : DA X (a :: es) ms) (hn : x ≠ "__name__" := by decide) (hdb : (x == ("__debug__" : Str)) = false := by decide)
    (he : starEach (a :: es) X.env = (false, eval a X.env) :: starEach es X.env := by rfl) (hpl : (backTo pos (starEach es X.env)).any (·.1) = false := by rfl) : DE X (.Call (.Name x p) (a :: es) [] pos) (mCall o ms) := fun e => by
  obtain ⟨rr, hr, hq⟩ := hc
  exact PE.imp (pe_callTy hr hg hm hv (ha e) hn hdb he hpl) fun s H Q h => call_read hq h
end
end DL
namespace DL
open PySem L2 PyProof.Rows
section
variable {X : Cx}
theorem LkA.one {K : Fg} {F H : Hp} {vs : List V} {d : D} (h : LkA K F H vs [d]) : ∃ v, vs = [v] ∧ Lk K F H v d := by
  cases h with | cons a b => cases b; exact ⟨_, rfl, a⟩
theorem LkA.two {K : Fg} {F H : Hp} {vs : List V} {d d' : D} (h : LkA K F H vs [d, d']) : ∃ v v', vs = [v, v'] ∧ Lk K F H v d ∧ Lk K F H v' d' := by
  cases h with | cons a b => obtain ⟨v', rfl, q⟩ := b.one; exact ⟨_, _, rfl, a, q⟩
def fLen : FA
  | [.str x] => if x.length ≤ sizeLine then some (.val (.int x.length)) else none
  | [.list ds] => some (.val (.int ds.length))
  | [.tuple ds] => some (.val (.int ds.length))
  | _ => none
theorem calld_len : CallD X (.builtin "len") fLen := by
  refine ⟨_, call_len, fun e F r s H vs ds z Q k l ef w => ?_⟩
  unfold fLen at ef
  split at ef
  · split at ef
    · rename_i hz; cases ef
      obtain ⟨v, rfl, lk⟩ := l.one
      rw [lk.str]
      exact ⟨_, _, rfl, ⟨hz, rfl⟩, w _ F H k (Sub.refl F) (.val (.int _))⟩
    · cases ef
  · cases ef
    obtain ⟨v, rfl, lk⟩ := l.one
    obtain ⟨p, xs, rfl, g2, g3⟩ := lk.lst k.sub
    exact ⟨_, _, rfl, .inl ⟨xs, .inl g2, g3.length.symm⟩, w _ F H k (Sub.refl F) (.val (.int _))⟩
  · cases ef
    obtain ⟨v, rfl, lk⟩ := l.one
    obtain ⟨p, xs, rfl, g2, g3, _⟩ := lk.tup k.sub
    exact ⟨_, _, rfl, .inr ⟨xs, g2, g3.length.symm⟩, w _ F H k (Sub.refl F) (.val (.int _))⟩
  · cases ef
def fTuple : FA
  | [.list ds] => some (.val (.tuple ds))
  | [.tuple ds] => some (.val (.tuple ds))
  | _ => none
theorem calld_tuple : CallD X (.type "tuple") fTuple := by
  refine ⟨_, call_tupZ, fun e F r s H vs ds z Q k l ef w => ?_⟩
  unfold fTuple at ef
  split at ef
  · cases ef
    obtain ⟨v, rfl, lk⟩ := l.one
    obtain ⟨p, xs, rfl, g2, g3⟩ := lk.lst k.sub
    exact .inl ⟨p, xs, rfl, .inl g2, fun q o nq nd => w _ _ _ (k.lay nq) (Sub.new (k.free nq).1) (.newT k nq nd g3)⟩
  · cases ef
    obtain ⟨v, rfl, lk⟩ := l.one
    obtain ⟨p, xs, rfl, g2, g3, g4⟩ := lk.tup k.sub
    exact .inr ⟨p, xs, rfl, g2, w _ F H k (Sub.refl F) (.val g4)⟩
  · cases ef
def intsOf : List D → Option (List Int)
  | [] => some []
  | .int b :: ds => (intsOf ds).map (b :: ·)
  | _ => none
theorem RpA.ints {K : Fg} {F : Hp} : ∀ {ds : List D} {vs : List V} {bs : List Int}, RpA K F vs ds → intsOf ds = some bs → vs = bs.map V.int
  | [], _, _, h, q => by cases h; cases q; rfl
  | .int b :: ds, _, _, h, q => by
    cases h with | cons a r =>
    cases a
    simp only [intsOf, Option.map_eq_some_iff] at q
    obtain ⟨bs', q1, q2⟩ := q
    subst q2
    rw [RpA.ints r q1, List.map_cons]
  | .none :: _, _, _, _, q => by cases q
  | .bool _ :: _, _, _, _, q => by cases q
  | .str _ :: _, _, _, _, q => by cases q
  | .list _ :: _, _, _, _, q => by cases q
  | .tuple _ :: _, _, _, _, q => by cases q
  | .dict _ :: _, _, _, _, q => by cases q
def strsOf : List D → Option (List Str)
  | [] => some []
  | .str b :: ds => (strsOf ds).map (b :: ·)
  | _ => none
theorem RpA.strs {K : Fg} {F : Hp} : ∀ {ds : List D} {vs : List V} {bs : List Str}, RpA K F vs ds → strsOf ds = some bs → vs = bs.map V.str
  | [], _, _, h, q => by cases h; cases q; rfl
  | .str b :: ds, _, _, h, q => by
    cases h with | cons a r =>
    cases a
    simp only [strsOf, Option.map_eq_some_iff] at q
    obtain ⟨bs', q1, q2⟩ := q
    subst q2
    rw [RpA.strs r q1, List.map_cons]
  | .none :: _, _, _, _, q => by cases q
  | .bool _ :: _, _, _, _, q => by cases q
  | .int _ :: _, _, _, _, q => by cases q
  | .list _ :: _, _, _, _, q => by cases q
  | .tuple _ :: _, _, _, _, q => by cases q
  | .dict _ :: _, _, _, _, q => by cases q
def fAbs : FA
  | [.int i] => some (.val (.int (if i < 0 then -i else i)))
  | _ => none
theorem calld_abs : CallD X (.builtin "abs") fAbs := by
  refine ⟨_, call_abs, fun e F r s H vs ds z Q k l ef w => ?_⟩
  unfold fAbs at ef
  split at ef
  · cases ef
    obtain ⟨v, rfl, lk⟩ := l.one
    rw [lk.int]
    exact ⟨_, rfl, w _ F H k (Sub.refl F) (.val (.int _))⟩
  · cases ef
def fInt : FA
  | [.int i] => some (.val (.int i))
  | [.bool b] => some (.val (.int (if b then 1 else 0)))
  | _ => none
theorem calld_int : CallD X (.type "int") fInt := by
  refine ⟨_, call_int1, fun e F r s H vs ds z Q k l ef w => ?_⟩
  unfold fInt at ef
  split at ef
  · cases ef
    obtain ⟨v, rfl, lk⟩ := l.one
    rw [lk.int]
    exact .inl ⟨_, rfl, w _ F H k (Sub.refl F) (.val (.int _))⟩
  · cases ef
    obtain ⟨v, rfl, lk⟩ := l.one
    rw [lk.bl]
    exact .inr ⟨_, rfl, w _ F H k (Sub.refl F) (.val (.int _))⟩
  · cases ef
end
def kLen : List D → (R → Prop) → Prop
  | [.str x], K => Rq (x.length ≤ sizeLine) (K (.val (.int x.length)))
  | [.list ds], K => K (.val (.int ds.length))
  | [.tuple ds], K => K (.val (.int ds.length))
  | _, _ => False
def cLen : CaK := ⟨fLen, kLen, fun ds K h => by
  unfold kLen at h
  split at h
  · exact ⟨_, rq_if h, Rq.a h⟩
  · exact ⟨_, rfl, h⟩
  · exact ⟨_, rfl, h⟩
  · exact h.elim⟩
def kTuple : List D → (R → Prop) → Prop
  | [.list ds], K => K (.val (.tuple ds))
  | [.tuple ds], K => K (.val (.tuple ds))
  | _, _ => False
def cTuple : CaK := ⟨fTuple, kTuple, fun ds K h => by
  unfold kTuple at h
  split at h
  · exact ⟨_, rfl, h⟩
  · exact ⟨_, rfl, h⟩
  · exact h.elim⟩
def kAbs : List D → (R → Prop) → Prop
  | [.int i], K => K (.val (.int (if i < 0 then -i else i)))
  | _, _ => False
def cAbs : CaK := ⟨fAbs, kAbs, fun ds K h => by
  unfold kAbs at h
  split at h
  · exact ⟨_, rfl, h⟩
  · exact h.elim⟩
def kInt : List D → (R → Prop) → Prop
  | [.int i], K => K (.val (.int i))
  | [.bool b], K => K (.val (.int (if b then 1 else 0)))
  | _, _ => False
def cInt : CaK := ⟨fInt, kInt, fun ds K h => by
  unfold kInt at h
  split at h
  · exact ⟨_, rfl, h⟩
  · exact ⟨_, rfl, h⟩
  · exact h.elim⟩
end DL
namespace DL
open PySem L2 PyProof.Rows
section
variable {X : Cx} {a b : Expr} {ma mb : ME} {pos : Pos}
def kindD : D → String
  | .none => "NoneType"
  | .bool _ => "bool"
  | .int _ => "int"
  | .str _ => "str"
  | .list _ => "list"
  | .tuple _ => "tuple"
  | .dict _ => "dict"
def isK (T k : String) : Bool := k == T || (k == "bool" && T == "int")
def isI (T : String) (d : D) : Bool := isK T (kindD d)
def kinds : List String := ["NoneType", "bool", "int", "str", "list", "tuple", "dict"]
theorem kind_in (d : D) : kindD d ∈ kinds := by cases d <;> simp [kindD, kinds]
theorem Rp.ty {K : Fg} {H : Hp} {v : V} {d : D} (h : Rp K H v d) : TyX K H v (.type (kindD d)) := by
  cases h with
  | non => exact .base .non
  | bl => exact .base (.bl _)
  | int => exact .base (.int _)
  | str => exact .base (.str _)
  | lst h _ =>
    rcases h with h | ⟨o, h⟩
    · exact .base (.lst h)
    · exact .base (.frz h)
  | tup h _ =>
    have h := h.sqT
    rcases h with (h | ⟨o, h⟩) | ⟨o, its, n, h1, h2, _⟩
    · exact .base (.tup h)
    · exact .fTuple h
    · exact .kTuple h1 h2
  | dct h _ _ _ =>
    rcases h with ⟨k, h, _⟩ | ⟨k, h, _⟩
    · exact .base (.dK h)
    · exact .base (.dT h)
theorem kit_ok : ∀ T ∈ kinds, ∀ k ∈ kinds, kitB k T = some (isK T k) := by decide +kernel
theorem kit_str (d : D) : kitB (kindD d) "str" = some (isI "str" d) := kit_ok _ (by simp [kinds]) _ (kind_in d)
def mIsI (T : String) (ma : ME) : ME := fun r P => ma r fun x r1 => onO (look r1 x.tmp) fun d => P (.val (.bool (isI T d))) r1
theorem de_isinst {T : String} {p q : Pos} (hk : ∀ d, kitB (kindD d) T = some (isI T d)) (hg : Gl X "isinstance") (hm : X.mg "isinstance" = none) (hv : bootBuiltins "isinstance" = some (.builtin "isinstance")) (hgT : Gl X (Str.ofString T)) (hmT : X.mg (Str.ofString T) = none) (hvT : bootBuiltins (Str.ofString T) = some (.type T))
    (ha : DE X a ma) (hnT : (Str.ofString T) ≠ "__name__" := by decide) (hdT : ((Str.ofString T) == ("__debug__" : Str)) = false := by decide)
    (he : starEach (a :: [.Name (Str.ofString T) q]) X.env = (false, eval a X.env) :: starEach [.Name (Str.ofString T) q] X.env := by rfl) : DE X (.Call (.Name "isinstance" p) [a, .Name (Str.ofString T) q] [] pos) (mIsI T ma) := fun e =>
  PE.imp (pe_callB call_isi hg hm hv (pa_cons (ha.tmp e) (pa_cons (pe_bltn (v := .ty T) hgT hmT hvT rfl hnT hdT) pa_nil) he) (he := he)) fun s H Q ⟨F, r, k, P, hm, hP⟩ => ⟨F, r, k, fun x r1 => onO (look r1 x) fun d => P (.val (.bool (isI T d))) r1, hm, fun x r1 v F1 H1 hx k1 q1 t1 => by
    obtain ⟨d, e1, hp⟩ := onO.ex hx
    exact ⟨v, .ty T, .type (kindD d), .type T, isI T d, rfl, .ty T, ((t1.look k1 e1).all k1.sub).ty, kit_ty (hk d), hP _ r1 _ F1 H1 hp k1 q1 (.val (.bl _))⟩⟩
mutual
def noList : D → Bool
  | .list _ => false
  | .tuple ds => noListA ds
  | .dict kvs => noListK kvs
  | .none | .bool _ | .int _ | .str _ => true
def noListA : List D → Bool
  | [] => true
  | d :: ds => noList d && noListA ds
def noListK : List (D × D) → Bool
  | [] => true
  | (a, b) :: r => noList a && noList b && noListK r
end
theorem noListK_vals : ∀ {kvs : List (D × D)}, noListK kvs = true → noListA (kvs.map (·.2)) = true
  | [], _ => rfl
  | (a, b) :: r, h => by
    simp only [noListK, Bool.and_eq_true] at h
    simp only [List.map_cons, noListA, h.1.2, noListK_vals h.2, Bool.and_self]
/-- what repr is told of here -/
def reprOk (d : D) : Bool := d.showable && decide (d.shown.length ≤ sizeLine) && decide (d.depth ≤ 64) && (!d.hasDict || noList d)
def fRepr : FA
  | [d] => if reprOk d then some (.val (.str d.shown)) else none
  | _ => none
theorem reads_key {h : Heap} {k : Key} {u : Value} (q : keyIs k u = true) : Reads h u (kD k) [] := by
  rcases keyIs_shape q with ⟨i, t, rfl, rfl⟩ | ⟨x, t, rfl, rfl⟩
  · exact .int i t
  · exact .str x t
end
section
variable {X : Cx} {pins : List (Addr × Obj)} {σ : L2.St} {H : Hp} {s : Shared}
theorem reads_keys {P : Program} {w : World} {h : Heap} {es : List DictEntry} {kvs : List (Key × Value)} (p : Pairs (mixKind P w) es kvs) : ReadsAll h (es.map (·.key)) (kvs.map fun p => kD p.1) [] ∧ es.map (·.val) = kvs.map (·.2) := by
  induction p with
  | nil => exact ⟨.nil, rfl⟩
  | cons a b _ ih =>
    refine ⟨.cons (as := []) (reads_key a) ih.1, ?_⟩
    rw [List.map_cons, List.map_cons, b, ih.2]
theorem kv_split {kvs : List (Key × V)} {vs : List (Key × Value)} (h : KV kvs vs) : kvs.map (fun p => kD p.1) = vs.map (fun p => kD p.1) ∧ Vals (kvs.map (·.2)) (vs.map (·.2)) := by
  unfold KV at h
  induction h with
  | nil => exact ⟨rfl, .nil⟩
  | cons a _ ih =>
    refine ⟨?_, .cons a.2 ih.2⟩
    rw [List.map_cons, List.map_cons, ih.1, a.1]
theorem reads_tkey (I : Inv X pins σ H s) : ∀ (k : List Key) (us : List Value), Vals (k.map kV) us → ReadsAll s.heap us (k.map kD) []
  | [], _, r => by cases r; exact .nil
  | .inl i :: k, _, r => by
    cases r with | cons a b =>
    obtain ⟨t, rfl⟩ := a
    exact .cons (as := []) (.int i t) (reads_tkey I k _ b)
  | .inr x :: k, _, r => by
    cases r with | cons a b =>
    obtain ⟨t, rfl⟩ := a
    exact .cons (as := []) (.str x t) (reads_tkey I k _ b)
theorem tkv_split (I : Inv X pins σ H s) {kvs : List (List Key × V)} {xs : List (List Key × Addr × Value)} (h : Paired (fun (p : List Key × V) (q : List Key × Addr × Value) => p.1 = q.1 ∧ H q.2.1 = some (.tup (p.1.map kV)) ∧ RelV p.2 q.2.2) kvs xs) :
    ReadsAll s.heap (xs.map fun x => Value.ref x.2.1) (kvs.map fun p => ktD p.1) [] ∧ Vals (kvs.map (·.2)) (xs.map fun x => x.2.2) := by
  induction h with
  | nil => exact ⟨.nil, .nil⟩
  | cons a _ ih =>
    obtain ⟨its, rv, ⟨o, e1, e2, n, e3⟩, _⟩ := I.tuple (SqT.of a.2.1)
    exact ⟨.cons (as := []) (.tuple e1 e2 e3 (by simpa using reads_tkey I _ _ rv)) ih.1, .cons a.2.2 ih.2⟩
mutual
theorem Rp.reads (I : Inv X pins σ H s) : ∀ {v : V} {d : D}, Rp X.K H v d → ∀ {u : Value}, RelV v u → ∃ as, Reads s.heap u d as ∧ (noList d = true → sysModules ∉ as)
  | _, _, .non, _, r => by cases r; exact ⟨[], .none, fun _ => by simp⟩
  | _, _, .bl b, _, r => by cases r; exact ⟨[], .bool b, fun _ => by simp⟩
  | _, _, .int i, _, r => by obtain ⟨t, rfl⟩ := r; exact ⟨[], .int i t, fun _ => by simp⟩
  | _, _, .str x, _, r => by obtain ⟨t, rfl⟩ := r; exact ⟨[], .str x t, fun _ => by simp⟩
  | _, _, .lst h q, _, r => by
    cases r
    obtain ⟨_, its, n, rv, e⟩ := rd_list h I.hok
    obtain ⟨as, ra, _⟩ := RpA.reads I q rv
    exact ⟨_, .list e rfl rfl (by simpa using ra), fun z => by simp [noList] at z⟩
  | _, _, .tup h q, _, r => by
    cases r
    obtain ⟨its, rv, ⟨o, e1, e2, n, e3⟩, _⟩ := I.tuple h.sqT
    obtain ⟨as, ra, ns⟩ := RpA.reads I q rv
    exact ⟨_, .tuple e1 e2 e3 (by simpa using ra), fun z => ns (by simpa [noList] using z)⟩
  | _, _, .dct h q e1 e2, _, r => by
    have ih := fun us (r : Vals _ us) => RpA.reads I q r
    cases r
    subst e1; subst e2
    rcases h with ⟨kvs, hh, ek, ev⟩ | ⟨kvs, hh, ek, ev⟩
    · obtain ⟨_, ns, vs, kv, o, es, ep, g1, g2, g3, _, g5, _⟩ := I.hok _ _ hh
      obtain ⟨w1, w2⟩ := kv_split kv
      obtain ⟨k1, k2⟩ := reads_keys (h := s.heap) g5
      obtain ⟨bs, rb, nb⟩ := ih _ (by rw [ev]; exact w2)
      refine ⟨_, .dict (as := []) (bs := bs) g1 g2.1 g3 ?_ ?_, fun z => ?_⟩
      · rw [ek, w1]; exact k1
      · rw [k2]; exact rb
      · rw [List.singleton_append, List.mem_cons]
        rintro (y | y)
        · rw [y] at ns; simp at ns
        · exact nb (noListK_vals (by simpa [noList] using z)) y
    · obtain ⟨_, ns, xs, pr, o, es, ep, g1, g2, g3, g4, _⟩ := I.hok _ _ hh
      obtain ⟨w1, w2⟩ := tkv_split I pr
      obtain ⟨bs, rb, nb⟩ := ih _ (by rw [ev]; exact w2)
      refine ⟨_, .dict (as := []) (bs := bs) g1 g2.1 g3 ?_ ?_, fun z => ?_⟩
      · rw [ek, g4, List.map_map]; exact w1
      · rw [g4, List.map_map]; exact rb
      · rw [List.singleton_append, List.mem_cons]
        rintro (y | y)
        · rw [y] at ns; simp at ns
        · exact nb (noListK_vals (by simpa [noList] using z)) y
theorem RpA.reads (I : Inv X pins σ H s) : ∀ {vs : List V} {ds : List D}, RpA X.K H vs ds → ∀ {us : List Value}, Vals vs us → ∃ as, ReadsAll s.heap us ds as ∧ (noListA ds = true → sysModules ∉ as)
  | _, _, .nil, _, r => by cases r; exact ⟨[], .nil, fun _ => by simp⟩
  | _, _, .cons a b, _, r => by
    cases r with | cons r1 r2 =>
    obtain ⟨as, h1, n1⟩ := Rp.reads I a r1
    obtain ⟨bs, h2, n2⟩ := RpA.reads I b r2
    refine ⟨_, .cons h1 h2, fun z => ?_⟩
    simp only [noListA, Bool.and_eq_true] at z
    rw [List.mem_append]
    exact fun y => y.elim (n1 z.1) (n2 z.2)
end
end
section
variable {X : Cx}
theorem call_repr (hg : X.A.guards = some []) (hu : X.A.units + 66 < cLine) : CallR X (.builtin "repr") (fun xs H Q => ∃ v d, xs = [v] ∧ Rp X.K H v d ∧ reprOk d = true ∧ Q (.str d.shown) H) := by
  rintro pins s σ H _ us Q I r ⟨v, d, rfl, h, ok, q⟩
  obtain ⟨u, rfl, ru⟩ := vals1 r
  simp only [reprOk, Bool.and_eq_true, decide_eq_true_eq] at ok
  obtain ⟨⟨⟨o1, o2⟩, o3⟩, o4⟩ := ok
  obtain ⟨as, hr, ns⟩ := h.reads I ru
  have fin : ∀ t h' k, (∀ b o, s.heap.get? b = some o → h'.get? b = some o) → EP X pins σ Q (.str d.shown t) { s with heap := h', toks := k } := fun t h' k kk => ⟨.str _, H, I.kept (t' := k) kk, ⟨_, rfl⟩, q⟩
  have fin0 : ∀ t k, EP X pins σ Q (.str d.shown t) { s with toks := k } := fun t k => fin t s.heap k fun _ _ e => e
  have ref : ∀ a, u = .ref a → wpAny (model X.prog X.w) X.A (call (.builtin "repr") [u]) (EP X pins σ Q) X.xe s := by
    rintro a rfl
    refine repr_of_reads' hr o1 (fun hd => ?_) hg (by omega) (fun _ _ e => e) (fun h' t tk k => fin t h' tk k) o2
    rw [hd] at o4
    exact ns (by simpa using o4)
  cases hr with
  | none => exact PySem.P.repr_of_none (fin0 _ _)
  | bool b => exact PySem.P.repr_of_bool (by first | exact fin0 _ _)
  | int i t => exact PySem.P.repr_of_int (by simpa [PyData.showable] using o1) (fin0 _ _)
  | str x t => exact PySem.P.repr_of_str (fin0 _ _) o2
  | list _ _ _ _ => exact ref _ rfl
  | tuple _ _ _ _ => exact ref _ rfl
  | dict _ _ _ _ _ => exact ref _ rfl
theorem calld_repr (hg : X.A.guards = some []) (hu : X.A.units + 66 < cLine) : CallD X (.builtin "repr") fRepr := by
  refine ⟨_, call_repr hg hu, fun e F r s H vs ds z Q k l ef w => ?_⟩
  unfold fRepr at ef
  split at ef
  · split at ef
    · rename_i ok; cases ef
      obtain ⟨v, rfl, lk⟩ := l.one
      exact ⟨v, _, rfl, lk.all k.sub, ok, w _ F H k (Sub.refl F) (.val (.str _))⟩
    · cases ef
  · cases ef
end
def kRepr : List D → (R → Prop) → Prop
  | [d], K => rqB (reprOk d) (K (.val (.str d.shown)))
  | _, _ => False
def cRepr : CaK := ⟨fRepr, kRepr, fun ds K h => by
  unfold kRepr at h
  split at h
  · obtain ⟨h1, h2⟩ := rqB.ex h
    exact ⟨_, if_pos h1, h2⟩
  · exact h.elim⟩
end DL
namespace DL
open PySem L2 PyProof.Rows
structure Out where
  nx : Rho → Prop
  rt : R → Rho → Prop
  bk : Rho → Prop := fun _ => False
  ct : Rho → Prop := fun _ => False
abbrev MS := Rho → Out → Prop
/-- what the ends of a statement by data say of those by values -/
structure Hits (K : Fg) (e : En) (F : Hp) (O : Out) (D : Ends) : Prop where
  nx : ∀ r' s' F' H', O.nx r' → Ok K e F' r' s' H' → Sub F F' → D.nx s' H'
  rt : ∀ x r' v s' F' H', O.rt x r' → Ok K e F' r' s' H' → Sub F F' → RR K e F' r' s' H' x v → D.rt v H'
  bk : ∀ r' s' F' H', O.bk r' → Ok K e F' r' s' H' → Sub F F' → D.bk s' H'
  ct : ∀ r' s' F' H', O.ct r' → Ok K e F' r' s' H' → Sub F F' → D.ct s' H'
theorem Hits.mono {K : Fg} {e : En} {F G : Hp} {O : Out} {D : Ends} (h : Hits K e F O D) (q : Sub F G) : Hits K e G O D :=
  ⟨fun r' s' F' H' a b c => h.nx r' s' F' H' a b (q.trans c), fun x r' v s' F' H' a b c d => h.rt x r' v s' F' H' a b (q.trans c) d, fun r' s' F' H' a b c => h.bk r' s' F' H' a b (q.trans c), fun r' s' F' H' a b c => h.ct r' s' F' H' a b (q.trans c)⟩
def TSt (K : Fg) (e : En) (m : MS) : TS := fun D s H => ∃ F r, Ok K e F r s H ∧ ∃ O : Out, m r O ∧ Hits K e F O D
def DS (X : Cx) (a : Stmt) (m : MS) : Prop := ∀ e, PS X a (TSt X.K e m)
def DSs (X : Cx) (a : List Stmt) (m : MS) : Prop := ∀ e, PSs X a (TSt X.K e m)
theorem PS.imp {X : Cx} {a : Stmt} {t u : TS} (h : PS X a t) (i : ∀ D s H, u D s H → t D s H) : PS X a u := ⟨fun pins s σ H D I q => h.run pins s σ H D I (i _ _ _ q)⟩
theorem PSs.imp {X : Cx} {a : List Stmt} {t u : TS} (h : PSs X a t) (i : ∀ D s H, u D s H → t D s H) : PSs X a u := ⟨fun pins s σ H D I q => h.run pins s σ H D I (i _ _ _ q)⟩
def sNext : MS := fun r O => O.nx r
def sSeq (m n : MS) : MS := fun r O => m r { O with nx := fun r' => n r' O }
section
variable {X : Cx} {st : Stmt} {rest : List Stmt} {m n : MS} {a b c : Expr} {ma mb : ME} {ta : MT} {pos : Pos}
theorem dss_nil : DSs X [] sNext := fun e => PSs.imp pss_nil fun D s H ⟨F, r, k, O, hm, h⟩ => h.nx r s F H hm k (Sub.refl F)
theorem dss_one (h : DS X st m) : DSs X [st] m := fun e => pss_one (h e)
theorem dss_cons (h1 : DS X st m) (h2 : DSs X rest n) : DSs X (st :: rest) (sSeq m n) := fun e =>
  PSs.imp (pss_cons (h1 e) (h2 e)) fun D s H ⟨F, r, k, O, hm, h⟩ => ⟨F, r, k, _, hm, ⟨fun r' s' F' H' hn k' q => ⟨F', r', k', O, hn, h.mono q⟩, h.rt, h.bk, h.ct⟩⟩
def sExpr (m : ME) : MS := fun r O => m r fun _ r' => O.nx r'
theorem ds_expr (ha : DE X a ma) (hs : swapsWith a none pos.line X.env = pure false := by rfl) : DS X (.Expr a pos) (sExpr ma) := fun e =>
  PS.imp (ps_expr (ha e) hs) fun D s H ⟨F, r, k, O, hm, h⟩ => ⟨F, r, k, _, hm, fun x r' v F' H' hp k' q t => h.nx r' s F' H' hp k' q⟩
def sRet (m : ME) : MS := fun r O => m r fun x r' => O.rt x r'
theorem ds_ret (ha : DE X a ma) : DS X (.Return (some a) pos) (sRet ma) := fun e =>
  PS.imp (ps_ret (ha e)) fun D s H ⟨F, r, k, O, hm, h⟩ => ⟨F, r, k, _, hm, fun x r' v F' H' hp k' q t => h.rt x r' v s F' H' hp k' q t⟩
def sIf (t : MT) (m n : MS) : MS := fun r O => t r fun b r1 => brK b (m r1 O) (n r1 O)
theorem ds_if {sa sb : List Stmt} (hc : DT X c ta) (ha : DSs X sa m) (hb : DSs X sb n) : DS X (.If c sa sb pos) (sIf ta m n) := fun e =>
  PS.imp (ps_if (hc e) (ha e) (hb e)) fun D s H ⟨F, r, k, O, hm, h⟩ => ⟨F, r, k, _, hm, fun b r1 F1 H1 hp k1 q => by
    cases b with
    | true => rw [if_pos rfl]; exact ⟨F1, r1, k1, O, hp, h.mono q⟩
    | false => rw [if_neg Bool.false_ne_true]; exact ⟨F1, r1, k1, O, hp, h.mono q⟩⟩
end
section
variable {K : Fg} {e : En} {F : Hp} {r : Rho} {s : L2.St} {H : Hp}
/-- a datum is stored at a name -/
theorem Ok.store {i : Nat} {v : V} {d : D} (k : Ok K e F r s H) (h : Rp K F v d) : Ok K e F (r.set i (some (.val d))) (s.set i (some v)) H where
  len := by rw [List.length_set, List.length_set]; exact k.len
  sub := k.sub
  f0 := k.f0
  prot := k.prot
  new := k.new
  dom := k.dom
  slot := fun j d' z => by
    by_cases q : i = j
    · subst q
      have hl : i < r.length := by simpa using (List.getElem?_eq_some_iff.mp z).1
      rw [List.getElem?_set_self hl] at z
      cases z
      exact ⟨v, by rw [List.getElem?_set_self (by rw [← k.len]; exact hl)], h⟩
    · rw [List.getElem?_set_ne q] at z ⊢
      exact k.slot j d' z
  box := fun j b m z => by
    rcases get_set z with ⟨_, e2⟩ | ⟨q, e2⟩
    · cases e2
    · rw [List.getElem?_set_ne q]
      exact k.box j b m e2
  ob := fun j ns z => by
    rcases get_set z with ⟨_, e2⟩ | ⟨q, e2⟩
    · cases e2
    · rw [List.getElem?_set_ne q]
      exact k.ob j ns e2
  sep := fun j1 j2 p b m b' m' z1 z2 w1 w2 => by
    rcases get_set z1 with ⟨_, e2⟩ | ⟨q1, e2⟩
    · cases e2
    · rcases get_set z2 with ⟨_, e4⟩ | ⟨q2, e4⟩
      · cases e4
      · rw [List.getElem?_set_ne q1] at w1
        rw [List.getElem?_set_ne q2] at w2
        exact k.sep j1 j2 p b m b' m' e2 e4 w1 w2
  adr := fun j n a z => by
    rcases get_set z with ⟨_, e2⟩ | ⟨q, e2⟩
    · cases e2
    · rw [List.getElem?_set_ne q]
      exact k.adr j n a e2
  gh := fun j G z => by
    rcases get_set z with ⟨_, e2⟩ | ⟨q, e2⟩
    · cases e2
    · obtain ⟨g1, g2, g3⟩ := k.gh j G e2
      refine ⟨g1, fun j2 b m p z2 w => ?_, fun j2 G' z2 => ?_⟩
      · rcases get_set z2 with ⟨_, e4⟩ | ⟨q2, e4⟩
        · cases e4
        · rw [List.getElem?_set_ne q2] at w
          exact g2 j2 b m p e4 w
      · rcases get_set z2 with ⟨_, e4⟩ | ⟨q2, e4⟩
        · cases e4
        · exact g3 j2 G' e4
  gpF := k.gpF
/-- the script is stored at a name -/
theorem Ok.storeOb {i : Nat} {a : V} {ns : Ob} (k : Ok K e F r s H) (h : ObOk K F a ns) : Ok K e F (r.set i (some (.ob ns))) (s.set i (some a)) H where
  len := by rw [List.length_set, List.length_set]; exact k.len
  sub := k.sub
  f0 := k.f0
  prot := k.prot
  new := k.new
  dom := k.dom
  slot := fun j d' z => by
    rcases get_set z with ⟨_, e2⟩ | ⟨q, e2⟩
    · cases e2
    · rw [List.getElem?_set_ne q]
      exact k.slot j d' e2
  box := fun j b m z => by
    rcases get_set z with ⟨_, e2⟩ | ⟨q, e2⟩
    · cases e2
    · rw [List.getElem?_set_ne q]
      exact k.box j b m e2
  ob := fun j ns' z => by
    by_cases q : i = j
    · subst q
      have hl : i < r.length := by simpa using (List.getElem?_eq_some_iff.mp z).1
      rw [List.getElem?_set_self hl] at z
      cases z
      exact ⟨a, by rw [List.getElem?_set_self (by rw [← k.len]; exact hl)], h⟩
    · rw [List.getElem?_set_ne q] at z ⊢
      exact k.ob j ns' z
  sep := fun j1 j2 p b m b' m' z1 z2 w1 w2 => by
    rcases get_set z1 with ⟨_, e2⟩ | ⟨q1, e2⟩
    · cases e2
    · rcases get_set z2 with ⟨_, e4⟩ | ⟨q2, e4⟩
      · cases e4
      · rw [List.getElem?_set_ne q1] at w1
        rw [List.getElem?_set_ne q2] at w2
        exact k.sep j1 j2 p b m b' m' e2 e4 w1 w2
  adr := fun j n a z => by
    rcases get_set z with ⟨_, e2⟩ | ⟨q, e2⟩
    · cases e2
    · rw [List.getElem?_set_ne q]
      exact k.adr j n a e2
  gh := fun j G z => by
    rcases get_set z with ⟨_, e2⟩ | ⟨q, e2⟩
    · cases e2
    · obtain ⟨g1, g2, g3⟩ := k.gh j G e2
      refine ⟨g1, fun j2 b m p z2 w => ?_, fun j2 G' z2 => ?_⟩
      · rcases get_set z2 with ⟨_, e4⟩ | ⟨q2, e4⟩
        · cases e4
        · rw [List.getElem?_set_ne q2] at w
          exact g2 j2 b m p e4 w
      · rcases get_set z2 with ⟨_, e4⟩ | ⟨q2, e4⟩
        · cases e4
        · exact g3 j2 G' e4
  gpF := k.gpF
/-- a new object is stored at a name -/
theorem Ok.storeOwn {i : Nat} {p : Addr} {o : HO} {m : MB} (k : Ok K e F r s H) (h1 : H p = some o) (h2 : MO K F o m) (h3 : F p = none) (h4 : e.P p = none) (h5 : ¬ e.old p)
    (h6 : NB r s p) : Ok K e F (r.set i (some (.box false m))) (s.set i (some (.ref p))) H where
  len := by rw [List.length_set, List.length_set]; exact k.len
  sub := k.sub
  f0 := k.f0
  prot := k.prot
  new := k.new
  dom := k.dom
  slot := fun j d' z => by
    rcases get_set z with ⟨_, e2⟩ | ⟨q, e2⟩
    · cases e2
    · rw [List.getElem?_set_ne q]
      exact k.slot j d' e2
  box := fun j b m' z => by
    by_cases q : i = j
    · subst q
      have hl : i < r.length := by simpa using (List.getElem?_eq_some_iff.mp z).1
      rw [List.getElem?_set_self hl] at z
      cases z
      exact ⟨p, o, by rw [List.getElem?_set_self (by rw [← k.len]; exact hl)], h1, h2, h3, h4, fun _ => h5, fun z => Bool.noConfusion z⟩
    · rw [List.getElem?_set_ne q] at z ⊢
      exact k.box j b m' z
  ob := fun j ns z => by
    rcases get_set z with ⟨_, e2⟩ | ⟨q, e2⟩
    · cases e2
    · rw [List.getElem?_set_ne q]
      exact k.ob j ns e2
  sep := fun j1 j2 p' b m1 b' m2 z1 z2 w1 w2 => by
    rcases get_set z1 with ⟨q1, e2⟩ | ⟨q1, e2⟩
    · rcases get_set z2 with ⟨q2, e4⟩ | ⟨q2, e4⟩
      · exact q1.symm.trans q2
      · subst q1
        have hl : i < s.length := by rw [← k.len]; simpa using (List.getElem?_eq_some_iff.mp z1).1
        rw [List.getElem?_set_self hl] at w1
        cases w1
        rw [List.getElem?_set_ne q2] at w2
        exact absurd w2 (h6.1 j2 _ _ e4)
    · rw [List.getElem?_set_ne q1] at w1
      rcases get_set z2 with ⟨q2, e4⟩ | ⟨q2, e4⟩
      · subst q2
        have hl : i < s.length := by rw [← k.len]; simpa using (List.getElem?_eq_some_iff.mp z2).1
        rw [List.getElem?_set_self hl] at w2
        cases w2
        exact absurd w1 (h6.1 j1 _ _ e2)
      · rw [List.getElem?_set_ne q2] at w2
        exact k.sep j1 j2 p' b m1 b' m2 e2 e4 w1 w2
  adr := fun j n a z => by
    rcases get_set z with ⟨_, e2⟩ | ⟨q, e2⟩
    · cases e2
    · rw [List.getElem?_set_ne q]
      exact k.adr j n a e2
  gh := fun j G z => by
    rcases get_set z with ⟨_, e2⟩ | ⟨q, e2⟩
    · cases e2
    · obtain ⟨g1, g2, g3⟩ := k.gh j G e2
      refine ⟨g1, fun j2 b m p' z2 w => ?_, fun j2 G' z2 => ?_⟩
      · rcases get_set z2 with ⟨q2, e4⟩ | ⟨q2, e4⟩
        · subst q2
          have hl : i < s.length := by rw [← k.len]; simpa using (List.getElem?_eq_some_iff.mp z2).1
          rw [List.getElem?_set_self hl] at w
          cases w
          exact h6.2 j G e2
        · rw [List.getElem?_set_ne q2] at w
          exact g2 j2 b m p' e4 w
      · rcases get_set z2 with ⟨_, e4⟩ | ⟨q2, e4⟩
        · cases e4
        · exact g3 j2 G' e4
  gpF := k.gpF
/-- the box of slot i holds another thing -/
theorem Ok.write {i : Nat} {b : Bool} {m m' : MB} {p : Addr} {o : HO} (k : Ok K e F r s H) (h : r[i]? = some (some (Ce.box b m))) (hp : s[i]? = some (some (V.ref p))) (h2 : MO K F o m') : Ok K e F (r.set i (some (.box b m'))) s (upd H p o) := by
  obtain ⟨p', o', g1, g2, g3, g4, g5, g6⟩ := k.box i b m h
  rw [hp] at g1; cases g1
  refine ⟨by rw [List.length_set]; exact k.len, ?_, k.f0, ?_, k.new, ?_, ?_, ?_, ?_, ?_, ?_, ?_, k.gpF⟩
  · intro a u q
    rw [upd_ne (ne_of_none q g4)]
    exact k.sub a u q
  · intro a u q
    rw [upd_ne (ne_of_none q g5)]
    exact k.prot a u q
  · intro a z
    by_cases q : a = p
    · subst q; rw [upd_same]; simp
    · rw [upd_ne q]; exact k.dom a z
  · intro j d z
    rcases get_set z with ⟨_, e2⟩ | ⟨q, e2⟩
    · cases e2
    · exact k.slot j d e2
  · intro j b' m1 z
    rcases get_set z with ⟨q, e2⟩ | ⟨q, e2⟩
    · cases e2
      subst q
      exact ⟨p, o, hp, upd_same, h2, g4, g5, g6⟩
    · obtain ⟨p1, o1, w1, w2, w3, w4, w5, w6⟩ := k.box j b' m1 e2
      have ne : p1 ≠ p := fun y => by subst y; exact q (k.sep i j p1 b m b' m1 h e2 hp w1)
      exact ⟨p1, o1, w1, by rw [upd_ne ne]; exact w2, w3, w4, w5, w6⟩
  · intro j ns z
    rcases get_set z with ⟨_, e2⟩ | ⟨q, e2⟩
    · cases e2
    · exact k.ob j ns e2
  · intro j1 j2 p' b1 m1 b2 m2 z1 z2 w1 w2
    have f : ∀ (j : Nat) b1 m1, (r.set i (some (Ce.box b m')))[j]? = some (some (Ce.box b1 m1)) → ∃ b2 m2, r[j]? = some (some (Ce.box b2 m2)) := fun j b1 m1 z => by
      rcases get_set z with ⟨q, e2⟩ | ⟨q, e2⟩
      · subst q; exact ⟨b, m, h⟩
      · exact ⟨b1, m1, e2⟩
    obtain ⟨_, _, y1⟩ := f j1 _ _ z1
    obtain ⟨_, _, y2⟩ := f j2 _ _ z2
    exact k.sep j1 j2 p' _ _ _ _ y1 y2 w1 w2
  · intro j n a z
    rcases get_set z with ⟨_, e2⟩ | ⟨q, e2⟩
    · cases e2
    · exact k.adr j n a e2
  · intro j G z
    rcases get_set z with ⟨_, e2⟩ | ⟨q, e2⟩
    · cases e2
    · obtain ⟨y1, y2, y3⟩ := k.gh j G e2
      refine ⟨y1.move (Sub.refl F) (fun q w u x => ?_) (fun q w => (y1.fr q w).1) fun q w => ⟨(y1.fr q w).2.1, (y1.fr q w).2.2.1⟩, fun j2 b2 m2 p2 z2 w => ?_, fun j2 G' z2 => ?_⟩
      · rw [upd_ne (fun t => by subst t; exact y2 i b m q h hp w)]; exact x
      · rcases get_set z2 with ⟨q2, e4⟩ | ⟨q2, e4⟩
        · subst q2
          exact y2 i b m p2 h w
        · exact y2 j2 b2 m2 p2 e4 w
      · rcases get_set z2 with ⟨_, e4⟩ | ⟨q2, e4⟩
        · cases e4
        · exact y3 j2 G' e4
end
section
variable {K : Fg} {e : En} {F : Hp} {r : Rho} {s : L2.St} {H : Hp}
/-- a reference to a node is stored at a name -/
theorem Ok.storeAdr {i n : Nat} {a : Addr} (k : Ok K e F r s H) : Ok K e F (r.set i (some (.adr n a))) (s.set i (some (.ref a))) H where
  len := by rw [List.length_set, List.length_set]; exact k.len
  sub := k.sub
  f0 := k.f0
  prot := k.prot
  new := k.new
  dom := k.dom
  slot := fun j d' z => by
    rcases get_set z with ⟨_, e2⟩ | ⟨q, e2⟩
    · cases e2
    · rw [List.getElem?_set_ne q]
      exact k.slot j d' e2
  box := fun j b m z => by
    rcases get_set z with ⟨_, e2⟩ | ⟨q, e2⟩
    · cases e2
    · rw [List.getElem?_set_ne q]
      exact k.box j b m e2
  ob := fun j ns' z => by
    rcases get_set z with ⟨_, e2⟩ | ⟨q, e2⟩
    · cases e2
    · rw [List.getElem?_set_ne q]
      exact k.ob j ns' e2
  sep := fun j1 j2 p b m b' m' z1 z2 w1 w2 => by
    rcases get_set z1 with ⟨_, e2⟩ | ⟨q1, e2⟩
    · cases e2
    · rcases get_set z2 with ⟨_, e4⟩ | ⟨q2, e4⟩
      · cases e4
      · rw [List.getElem?_set_ne q1] at w1
        rw [List.getElem?_set_ne q2] at w2
        exact k.sep j1 j2 p b m b' m' e2 e4 w1 w2
  adr := fun j n' a' z => by
    rcases get_set z with ⟨q, e2⟩ | ⟨q, e2⟩
    · cases e2
      subst q
      have hl : i < s.length := by rw [← k.len]; simpa using (List.getElem?_eq_some_iff.mp z).1
      rw [List.getElem?_set_self hl]
    · rw [List.getElem?_set_ne q]
      exact k.adr j n' a' e2
  gh := fun j G z => by
    rcases get_set z with ⟨_, e2⟩ | ⟨q, e2⟩
    · cases e2
    · obtain ⟨g1, g2, g3⟩ := k.gh j G e2
      refine ⟨g1, fun j2 b m p z2 w => ?_, fun j2 G' z2 => ?_⟩
      · rcases get_set z2 with ⟨_, e4⟩ | ⟨q2, e4⟩
        · cases e4
        · rw [List.getElem?_set_ne q2] at w
          exact g2 j2 b m p e4 w
      · rcases get_set z2 with ⟨_, e4⟩ | ⟨q2, e4⟩
        · cases e4
        · exact g3 j2 G' e4
  gpF := k.gpF
end
/-- what an expression gave is put into slot i -/
def put (r : Rho) (i : Nat) : R → Option Rho
  | .val d => some (r.set i (some (.val d)))
  | .own m => some (r.set i (some (.box false m)))
  | .bor j => match r[j]? with
    | some (some (.box false m)) => some ((r.set j (some (.val m.toD))).set i (some (.val m.toD)))
    | _ => none
  | .ob ns => some (r.set i (some (.ob ns)))
  | .adr n a => some (r.set i (some (.adr n a)))
section
variable {K : Fg} {e : En} {F : Hp} {r : Rho} {s : L2.St} {H : Hp}
theorem RR.put {i : Nat} {x : R} {v : V} {r' : Rho} (h : RR K e F r s H x v) (k : Ok K e F r s H) (q : DL.put r i x = some r') : ∃ F', Ok K e F' r' (s.set i (some v)) H ∧ Sub F F' := by
  cases h with
  | val a => cases q; exact ⟨F, k.store a, Sub.refl F⟩
  | own h1 h2 h3 h4 h5 h6 => cases q; exact ⟨F, k.storeOwn h1 h2 h3 h4 h5 h6, Sub.refl F⟩
  | bor a b =>
    simp only [DL.put] at q
    split at q
    · rename_i z; cases q
      obtain ⟨F', v', k', s', g1, g2⟩ := k.freezeBox z
      rw [a] at g1; cases g1
      exact ⟨F', k'.store g2, s'⟩
    · cases q
  | ob a => cases q; exact ⟨F, k.storeOb a, Sub.refl F⟩
  | adr => cases q; exact ⟨F, k.storeAdr, Sub.refl F⟩
end
section
variable {X : Cx} {st : Stmt} {rest : List Stmt} {m n : MS} {a b c : Expr} {ma mb : ME} {ta : MT} {pos pos' : Pos} {x : Str}
/-- the cells one by one -/
def strict (r : Rho) (K : Rho → Prop) : Prop := match r with
  | [] => K []
  | c :: r => strict r fun r' => K (c :: r')
theorem strict.ex : ∀ {r : Rho} {K : Rho → Prop}, strict r K → K r
  | [], _, h => h
  | _ :: r, K, h => strict.ex (r := r) h
theorem strict.mk : ∀ {r : Rho} {K : Rho → Prop}, K r → strict r K
  | [], _, h => h
  | c :: r, K, h => strict.mk (r := r) (K := fun r' => K (c :: r')) h
def onS (o : Option Rho) (K : Rho → Prop) : Prop := onO o fun r => strict r K
theorem onS.ex {o : Option Rho} {K : Rho → Prop} (h : onS o K) : ∃ r, o = some r ∧ K r := by
  obtain ⟨r, e, q⟩ := onO.ex h
  exact ⟨r, e, q.ex⟩
def sSet (i : Nat) (m : ME) : MS := fun r O => m r fun x r1 => onS (put r1 i x) O.nx
theorem ds_set {i : Nat} (hN : X.N.Nodup) (hi : X.N[i]? = some x) (hx : Loc X.env.scope x) (ha : DE X a ma) (hs : swapsWith a (some (.Name x pos')) pos.line X.env = pure false := by rfl) (hf : X.fn x = true ∨ X.env.scope.names.lookup x = some .local := by first | exact .inl rfl | exact .inr rfl | assumption) :
    DS X (.Assign [.Name x pos'] a pos) (sSet i ma) := fun e =>
  PS.imp (ps_set hN hi hx (ha e) hs hf) fun D s H ⟨F, r, k, O, hm, h⟩ => ⟨F, r, k, _, hm, fun x r1 v F1 H1 hx k1 q t => by
    obtain ⟨r2, ep, hp⟩ := onS.ex hx
    obtain ⟨F2, k2, q2⟩ := t.put k1 ep
    exact h.nx r2 _ F2 H1 hp k2 (q.trans q2)⟩
end
end DL
namespace DL
open PySem L2 PyProof.Rows
def iAny (K : Fg) (tl : TE) : TI := fun σ H R => tl σ H fun x H1 => (∃ a, x = .ref a ∧ (∃ xs, SqL K H1 a xs) ∧ R (Itl K a) H1) ∨ (∃ a, x = .ref a ∧ (∃ xs, SqT K H1 a xs) ∧ R (Itt K a) H1) ∨ ∃ z, x = .str z ∧ R (Its z) H1
section
variable {X : Cx} {tg : Expr}
theorem pi_any {l : Expr} {tl : TE} (hl : PE X l tl) : PI X tg l (iAny X.K tl) := by
  refine ⟨fun pins s σ H R I h => thn (hl.run pins s σ H _ I h) ?_⟩
  rintro v s1 ⟨x, H1, I1, r1, q1⟩
  rcases q1 with ⟨a, rfl, ⟨xs, hq⟩, q⟩ | ⟨a, rfl, ⟨xs, hq⟩, q⟩ | ⟨z, rfl, q⟩
  · cases r1
    obtain ⟨its, _, p, _⟩ := I1.list hq
    exact wpAny_pyIter_list p.isList (pi_one (tk := s1.toks) I1 _ (turn_list a _) ⟨_, Heap.get?_push_size _ rfl, rfl, rfl⟩ q)
  · cases r1
    obtain ⟨its, _, p, _⟩ := I1.tuple hq
    exact wpAny_pyIter_tuple (show s1.heap.IsTuple a its.toArray from p) (pi_one (tk := s1.toks) I1 _ (turn_tuple a _) ⟨_, Heap.get?_push_size _ rfl, rfl, rfl⟩ q)
  · obtain ⟨t, rfl⟩ := r1
    cases ha : z.cps.all (· < 128) with
    | false => exact wpAny_pyIter_wide ha (pi_one (tk := s1.toks) I1 _ (turn_str _ z t "str_iterator" (.inr rfl)) ⟨_, Heap.get?_push_size _ rfl, rfl, rfl⟩ q)
    | true => exact wpAny_pyIter_ascii ha (pi_one (tk := s1.toks) I1 _ (turn_str _ z t "str_ascii_iterator" (.inl rfl)) ⟨_, Heap.get?_push_size _ rfl, rfl, rfl⟩ q)
end
/-- J walks the data ds, which stand in F0 -/
structure ItOk (K : Fg) (F0 : Hp) (J : It) (ds : List D) : Prop where
  go : ∀ i H, Sub F0 H → i < ds.length → J.go i H
  stop : ∀ i H, Sub F0 H → ds.length ≤ i → J.stop i H
  yld : ∀ i H x H', J.yld i H x H' → ∀ e F r s, Ok K e F r s H → Sub F0 F → i < ds.length → ∃ d, ds[i]? = some d ∧ ∃ F', Ok K e F' r s H' ∧ Sub F F' ∧ Rp K F' x d
abbrev MI := Rho → (List D → Rho → Prop) → Prop
def TIt (K : Fg) (e : En) (m : MI) : TI := fun s H Q => ∃ F r, Ok K e F r s H ∧ ∃ P : List D → Rho → Prop, m r P ∧ ∀ ds r' F' H' J, P ds r' → Ok K e F' r' s H' → Sub F F' → ItOk K F' J ds → Q J H'
def DI (X : Cx) (tg a : Expr) (m : MI) : Prop := ∀ e, PI X tg a (TIt X.K e m)
theorem PI.imp {X : Cx} {tg a : Expr} {t u : TI} (h : PI X tg a t) (i : ∀ s H Q, u s H Q → t s H Q) : PI X tg a u := ⟨fun pins s σ H Q I q => h.run pins s σ H Q I (i _ _ _ q)⟩
theorem itok_list {K : Fg} {F : Hp} {a : Addr} {xs : List V} {ds : List D} (h : Rd F a (.lst xs)) (r : RpA K F xs ds) : ItOk K F (Itl K a) ds where
  go := fun i H q hi => by
    have hl : i < xs.length := by rw [r.length]; exact hi
    exact ⟨xs, xs[i], .inl (q.rd h), List.getElem?_eq_getElem hl⟩
  stop := fun i H q hi => ⟨xs, .inl (q.rd h), by rw [r.length]; exact hi⟩
  yld := fun i H x H' ⟨e1, e2⟩ e F' r' s k q hi => by
    subst e1
    obtain ⟨d, g1, g2⟩ := r.get (e2 xs (.inl ((q.trans k.sub).rd h)))
    exact ⟨d, g1, F', k, Sub.refl _, g2.mono q⟩
theorem itok_tup {K : Fg} {F : Hp} {a : Addr} {xs : List V} {ds : List D} (h : SqT K F a xs) (r : RpA K F xs ds) : ItOk K F (Itt K a) ds where
  go := fun i H q hi => by
    have hl : i < xs.length := by rw [r.length]; exact hi
    exact ⟨xs, xs[i], q.sqT h, List.getElem?_eq_getElem hl⟩
  stop := fun i H q hi => ⟨xs, q.sqT h, by rw [r.length]; exact hi⟩
  yld := fun i H x H' ⟨e1, e2⟩ e F' r' s k q hi => by
    subst e1
    obtain ⟨d, g1, g2⟩ := r.get (e2 xs ((q.trans k.sub).sqT h))
    exact ⟨d, g1, F', k, Sub.refl _, g2.mono q⟩
/-- a text's signs -/
def signsD (x : Str) : List D := x.cps.toList.map fun c => .str ⟨#[c]⟩
theorem itok_str {K : Fg} {F : Hp} {x : Str} : ItOk K F (Its x) (signsD x) where
  go := fun i H q hi => by
    have hi' : i < x.cps.size := by simpa [signsD] using hi
    exact hi'
  stop := fun i H q hi => by
    have hi' : x.cps.size ≤ i := by simpa [signsD] using hi
    exact hi'
  yld := fun i H v H' ⟨e1, c, e2, e3⟩ e F' r' s k q hi => by
    subst e1; subst e3
    refine ⟨.str ⟨#[c]⟩, ?_, F', k, Sub.refl _, .str _⟩
    rw [signsD, List.getElem?_map, Array.getElem?_toList, e2]
    rfl
/-- the data that a datum is walked by -/
def itemsD : D → Option (List D)
  | .list ds => some ds
  | .tuple ds => some ds
  | .str x => some (signsD x)
  | _ => none
def iOf (m : ME) : MI := fun r P => m r fun x r1 => onP (hold r1 x.tmp) fun qa qb => onO (itemsD qa) fun ds => strict qb fun r2 => P ds r2
section
variable {X : Cx} {tg a b c : Expr} {ma mb : ME} {pos p : Pos} {es : List Expr} {ms : MA}
theorem di_of (h : DE X a ma) : DI X tg a (iOf ma) := fun e =>
  PI.imp (pi_any (h.tmp e)) fun s H Q ⟨F, r, k, P, hm, hP⟩ => ⟨F, r, k, fun x r1 => onP (hold r1 x) fun qa qb => onO (itemsD qa) fun ds => strict qb fun r2 => P ds r2, hm, fun x r1 v F1 H1 hx k1 q1 t => by
    obtain ⟨d, r2, eh, hx2⟩ := onP.ex hx
    obtain ⟨ds, ei, hx3⟩ := onO.ex hx2
    have hp := hx3.ex
    clear hx hx2 hx3
    obtain ⟨F2, k2, q2, rp⟩ := t.hold k1 eh
    have q := q1.trans q2
    cases d with
    | list ds' =>
      cases ei
      cases rp with | lst g1 g2 => exact .inl ⟨_, rfl, ⟨_, .inl (k2.sub.rd g1)⟩, hP _ r2 F2 H1 _ hp k2 q (itok_list g1 g2)⟩
    | tuple ds' =>
      cases ei
      cases rp with | tup g1 g2 => exact .inr (.inl ⟨_, rfl, ⟨_, k2.sub.sqT g1.sqT⟩, hP _ r2 F2 H1 _ hp k2 q (itok_tup g1.sqT g2)⟩)
    | str x =>
      cases ei
      cases rp
      exact .inr (.inr ⟨x, rfl, hP _ r2 F2 H1 _ hp k2 q itok_str⟩)
    | none => cases ei
    | bool _ => cases ei
    | int _ => cases ei
    | dict _ => cases ei⟩
def rangeD (lo : Int) (n : Nat) : List D := (List.range n).map fun i => .int (lo + (i : Nat))
theorem itok_range {K : Fg} {F : Hp} {lo : Int} {n : Nat} : ItOk K F (Itr lo n) (rangeD lo n) where
  go := fun i H q hi => by
    have hi' : i < n := by simpa [rangeD] using hi
    exact hi'
  stop := fun i H q hi => by
    have hi' : n ≤ i := by simpa [rangeD] using hi
    exact hi'
  yld := fun i H v H' ⟨e1, e2⟩ e F' r' s k q hi => by
    subst e1; subst e2
    have hi' : i < n := by simpa [rangeD] using hi
    refine ⟨.int (lo + (i : Nat)), ?_, F', k, Sub.refl _, .int _⟩
    rw [rangeD, List.getElem?_map, List.getElem?_range hi']
    rfl
def okR (i : Int) : Bool := Nat.ble i.natAbs 4000000000000000000
def iRange1 (m : ME) : MI := fun r P => m r fun x r1 => onO (inOf x) fun j => rqB (okR j) (P (rangeD 0 j.toNat) r1)
theorem di_range1 (hg : Gl X "range") (hm : X.mg "range" = none) (ha : DE X a ma) (hs : starEach [a] X.env = [(false, eval a X.env)] := by rfl) : DI X tg (.Call (.Name "range" p) [a] [] pos) (iRange1 ma) := fun e =>
  PI.imp (pi_range1 hg hm (pa_cons (ha e) pa_nil hs) hs) fun s H Q ⟨F, r, k, P, hm, hP⟩ => ⟨F, r, k, _, hm, fun x r1 v F1 H1 hx k1 q1 t => by
    obtain ⟨j, ei, hx2⟩ := onO.ex hx
    obtain ⟨ok, hp⟩ := rqB.ex hx2
    have e1 := inOf_of ei
    subst e1
    cases t with | val a =>
    cases a
    have ok := Nat.le_of_ble_eq_true ok
    exact ⟨j, rfl, by omega, by omega, hP _ r1 F1 H1 _ hp k1 q1 itok_range⟩⟩
end
end DL
namespace DL
open PySem L2 PyProof.Rows
abbrev GT := D → Rho → Option Rho
def TGt (K : Fg) (e : En) (vs : List Nat) (g : GT) : TG := fun v s H Q => ∃ F r d r', Ok K e F r s H ∧ Rp K F v d ∧ g d r = some r' ∧ ∀ s' F' H', Ok K e F' r' s' H' → Sub F F' → wipe s' vs = wipe s vs → Q s' H'
def DG (X : Cx) (a : Expr) (vs : List Nat) (g : GT) : Prop := ∀ e, PG X a (TGt X.K e vs g)
theorem PG.imp {X : Cx} {a : Expr} {t u : TG} (h : PG X a t) (i : ∀ v s H Q, u v s H Q → t v s H Q) : PG X a u := ⟨fun pins s σ H v w Q I r q => h.run pins s σ H v w Q I r (i _ _ _ _ q)⟩
theorem wipe_get (s : L2.St) : ∀ (vs : List Nat) (j : Nat), (wipe s vs)[j]? = if j ∈ vs ∧ j < s.length then some none else s[j]?
  | [], j => by simp [wipe]
  | v :: vs, j => by
    unfold wipe
    have ih := wipe_get s vs j
    by_cases q : v = j
    · subst q
      by_cases hl : v < s.length
      · rw [List.getElem?_set_self (by rw [wipe_length]; exact hl), if_pos ⟨List.mem_cons_self, hl⟩]
      · rw [if_neg (fun z => hl z.2), List.getElem?_eq_none (by rw [List.length_set, wipe_length]; omega), List.getElem?_eq_none (by omega)]
    · rw [List.getElem?_set_ne q, ih]
      have : j ∈ v :: vs ↔ j ∈ vs := by rw [List.mem_cons]; exact ⟨fun z => z.elim (fun y => absurd y.symm q) id, .inr⟩
      simp only [this]
theorem wipe_set {s : L2.St} {i : Nat} {x : Option V} {vs : List Nat} (h : i ∈ vs) : wipe (s.set i x) vs = wipe s vs := by
  apply List.ext_getElem?
  intro j
  rw [wipe_get, wipe_get, List.length_set]
  by_cases q : i = j
  · subst q
    by_cases hl : i < s.length
    · rw [if_pos ⟨h, hl⟩, if_pos ⟨h, hl⟩]
    · rw [if_neg (fun z => hl z.2), if_neg (fun z => hl z.2), List.getElem?_eq_none (by rw [List.length_set]; omega), List.getElem?_eq_none (by omega)]
  · rw [List.getElem?_set_ne q]
def gNm (i : Nat) : GT := fun d r => some (r.set i (some (.val d)))
abbrev GTs := List D → Rho → Option Rho
def gNl : GTs := fun ds r => match ds with
  | [] => some r
  | _ => none
def gCs (g : GT) (gs : GTs) : GTs := fun ds r => match ds with
  | d :: ds => match g d r with
    | some r1 => gs ds r1
    | none => none
  | [] => none
def gTp (n : Nat) (gs : GTs) : GT := fun d r => match d with
  | .tuple ds => if ds.length = n then gs ds r else none
  | _ => none
def TGts (K : Fg) (e : En) (vs : List Nat) (g : GTs) : TGs := fun us s H Q => ∃ F r ds r', Ok K e F r s H ∧ RpA K F us ds ∧ g ds r = some r' ∧ ∀ s' F' H', Ok K e F' r' s' H' → Sub F F' → wipe s' vs = wipe s vs → Q s' H'
def DGs (X : Cx) (a : List Expr) (vs : List Nat) (g : GTs) : Prop := ∀ e, PGs X a (TGts X.K e vs g)
theorem PGs.imp {X : Cx} {a : List Expr} {t u : TGs} (h : PGs X a t) (i : ∀ v s H Q, u v s H Q → t v s H Q) : PGs X a u := ⟨fun pins s σ H v w Q I r q => h.run pins s σ H v w Q I r (i _ _ _ _ q)⟩
section
variable {X : Cx} {a b c : Expr} {es : List Expr} {x : Str} {pos : Pos} {vs : List Nat} {g : GT} {gs : GTs}
theorem dg_name {i : Nat} (hN : X.N.Nodup) (hi : X.N[i]? = some x) (hx : Loc X.env.scope x) (hv : i ∈ vs) (hf : X.fn x = true ∨ X.env.scope.names.lookup x = some .local := by first | exact .inl rfl | exact .inr rfl | assumption) : DG X (.Name x pos) vs (gNm i) := fun e =>
  PG.imp (pg_name hN hi hx hf) fun v s H Q ⟨F, r, d, r', k, rp, eg, hQ⟩ => by
    cases eg
    exact hQ _ F H (k.store rp) (Sub.refl F) (wipe_set hv)
theorem dgs_nil : DGs X [] vs gNl := fun e => PGs.imp pgs_nil fun v s H Q ⟨F, r, d, r', k, rp, eg, hQ⟩ => by
  cases rp with
  | nil => cases eg; exact ⟨rfl, hQ s F H k (Sub.refl F) rfl⟩
  | cons _ _ => cases eg
theorem dgs_cons (h1 : DG X a vs g) (h2 : DGs X es vs gs) (hs : (assignEach (a :: es) X.env).map (·.2) = assign a X.env :: (assignEach es X.env).map (·.2) := by rfl) : DGs X (a :: es) vs (gCs g gs) := fun e =>
  PGs.imp (pgs_cons (h1 e) (h2 e) hs) fun v s H Q ⟨F, r, d, r', k, rp, eg, hQ⟩ => by
    cases rp with
    | nil => cases eg
    | cons r1 r2 =>
      simp only [gCs] at eg
      split at eg
      · rename_i r1' e1
        refine ⟨_, _, rfl, F, r, _, r1', k, r1, e1, fun s1 F1 H1 k1 q1 w1 => ⟨F1, r1', _, r', k1, r2.mono q1, eg, fun s2 F2 H2 k2 q2 w2 => hQ s2 F2 H2 k2 (q1.trans q2) (w2.trans w1)⟩⟩
      · cases eg
theorem dg_tup {k : Nat} {n : Nat} (hc : X.calm = true) (h : DGs X es vs gs) (hn : (assignEach es X.env).length = n := by rfl) (hst : (assignEach es X.env).findIdx? (·.1) = none := by rfl) : DG X (.Tuple es k pos) vs (gTp n gs) := fun e =>
  PG.imp (pg_tup hc (h e) hn hst) fun v s H Q ⟨F, r, d, r', k, rp, eg, hQ⟩ => by
    cases d with
    | tuple ds =>
      simp only [gTp] at eg
      split at eg
      · rename_i hl
        cases rp with | tup g1 g2 => exact ⟨_, _, rfl, k.sub.sqT g1.sqT, by rw [g2.length]; exact hl, F, r, ds, r', k, g2, eg, hQ⟩
      · cases eg
    | _ => cases eg
end
def loopM (g : GT) (body : MS) : List D → MS
  | [], r, O => O.nx r
  | d :: ds, r, O => onS (g d r) fun r1 => body r1 ⟨fun r' => loopM g body ds r' O, O.rt, O.nx, fun r' => loopM g body ds r' O⟩
/-- a loop: here a proof speaks -/
structure Lp (g : GT) (body : MS) (ds : List D) (r : Rho) (O : Out) : Prop where
  h : loopM g body ds r O
def sFor (mi : MI) (g : GT) (body : MS) : MS := fun r O => mi r fun ds r1 => Lp g body ds r1 O
theorem drop_cons {α : Type} {l : List α} {i : Nat} {d : α} (h : l[i]? = some d) : l.drop i = d :: l.drop (i + 1) := by
  obtain ⟨hi, e⟩ := List.getElem?_eq_some_iff.mp h
  rw [List.drop_eq_getElem_cons hi, e]
section
variable {X : Cx} {st : Stmt} {rest : List Stmt} {m n : MS} {a b c tg : Expr} {ma mb : ME} {ta : MT} {pos pos' : Pos} {x : Str} {body : List Stmt} {mi : MI} {g : GT} {vs : List Nat}
theorem ds_for (hp : PassesOwn (model X.prog X.w) X.A X.env X.xe) (hc : X.calm = true) (hi : DI X tg a mi) (hg : DG X tg vs g) (hb : DSs X body m) (hs : ∀ x, foldedSetIterable a X.env x = pure x := by intro _; rfl) : DS X (.For tg a body [] pos) (sFor mi g m) := fun e =>
  PS.imp (ps_for hp hc (hi e) (hg e) (hb e) hs) fun D s H ⟨F, r, k, O, hm, h⟩ => ⟨F, r, k, _, hm, fun ds r1 F1 H1 J hl k1 q1 ok => by
    have h1 := h.mono q1
    refine ⟨fun i m s H => ∃ F r, Ok X.K e F r s H ∧ Sub F1 F ∧ i ≤ ds.length ∧ m = ds.length - i ∧ loopM g _ (ds.drop i) r O, ⟨_, F1, r1, k1, Sub.refl _, Nat.zero_le _, rfl, by rw [List.drop_zero]; exact hl.h⟩, ?_⟩
    rintro i m s2 H2 ⟨F2, r2, k2, q2, hi, rfl, hl2⟩
    by_cases hn : i < ds.length
    · refine .inr ⟨ok.go i H2 (q2.trans k2.sub) hn, fun s H => ∃ F r, Ok X.K e F r s H ∧ Sub F1 F ∧ loopM g _ (ds.drop (i + 1)) r O, fun s3 H3 ⟨F3, r3, k3, q3, hl3⟩ => ⟨_, by omega, F3, r3, k3, q3, hn, rfl, hl3⟩, fun x H3 hy => ?_⟩
      obtain ⟨d, ed, F3, k3, q3, rp⟩ := ok.yld i H2 x H3 hy e F2 r2 s2 k2 q2 hn
      rw [drop_cons ed] at hl2
      obtain ⟨r4, eg, hb4⟩ := onS.ex hl2
      refine ⟨F3, r2, d, r4, k3, rp, eg, fun s5 F5 H5 k5 q5 _ => ⟨F5, r4, k5, _, hb4, ?_⟩⟩
      have q25 : Sub F1 F5 := (q2.trans q3).trans q5
      exact ⟨fun r' s' F' H' hn k' q' => ⟨F', r', k', q25.trans q', hn⟩, fun x r' v s' F' H' hr k' q' t => h1.rt x r' v s' F' H' hr k' (q25.trans q') t, fun r' s' F' H' hn k' q' => h1.nx r' s' F' H' hn k' (q25.trans q'), fun r' s' F' H' hn k' q' => ⟨F', r', k', q25.trans q', hn⟩⟩
    · have e0 : i = ds.length := by omega
      subst e0
      rw [List.drop_length] at hl2
      exact .inl ⟨ok.stop _ H2 (q2.trans k2.sub) (Nat.le_refl _), h1.nx r2 s2 F2 H2 hl2 k2 q2⟩⟩
end
end DL
namespace DL
open PySem L2 PyProof.Rows
def wipeR (r : Rho) : List Nat → Rho
  | [] => r
  | v :: vs => (wipeR r vs).set v none
/-- the slots vs as they were in r0 -/
def backR (r r0 : Rho) : List Nat → Rho
  | [] => r
  | v :: vs => (backR r r0 vs).set v (r0.getD v none)
theorem wipeR_length (r : Rho) : ∀ vs : List Nat, (wipeR r vs).length = r.length
  | [] => rfl
  | v :: vs => by unfold wipeR; rw [List.length_set, wipeR_length r vs]
theorem backR_length (r r0 : Rho) : ∀ vs : List Nat, (backR r r0 vs).length = r.length
  | [] => rfl
  | v :: vs => by unfold backR; rw [List.length_set, backR_length r r0 vs]
theorem wipeR_get (r : Rho) : ∀ (vs : List Nat) (j : Nat), (wipeR r vs)[j]? = if j ∈ vs ∧ j < r.length then some none else r[j]?
  | [], j => by simp [wipeR]
  | v :: vs, j => by
    unfold wipeR
    have ih := wipeR_get r vs j
    by_cases q : v = j
    · subst q
      by_cases hl : v < r.length
      · rw [List.getElem?_set_self (by rw [wipeR_length]; exact hl), if_pos ⟨List.mem_cons_self, hl⟩]
      · rw [if_neg (fun z => hl z.2), List.getElem?_eq_none (by rw [List.length_set, wipeR_length]; omega), List.getElem?_eq_none (by omega)]
    · rw [List.getElem?_set_ne q, ih]
      have : j ∈ v :: vs ↔ j ∈ vs := by rw [List.mem_cons]; exact ⟨fun z => z.elim (fun y => absurd y.symm q) id, .inr⟩
      simp only [this]
theorem backR_get (r r0 : Rho) : ∀ (vs : List Nat) (j : Nat), (backR r r0 vs)[j]? = if j ∈ vs ∧ j < r.length then some (r0.getD j none) else r[j]?
  | [], j => by simp [backR]
  | v :: vs, j => by
    unfold backR
    have ih := backR_get r r0 vs j
    by_cases q : v = j
    · subst q
      by_cases hl : v < r.length
      · rw [List.getElem?_set_self (by rw [backR_length]; exact hl), if_pos ⟨List.mem_cons_self, hl⟩]
      · rw [if_neg (fun z => hl z.2), List.getElem?_eq_none (by rw [List.length_set, backR_length]; omega), List.getElem?_eq_none (by omega)]
    · rw [List.getElem?_set_ne q, ih]
      have : j ∈ v :: vs ↔ j ∈ vs := by rw [List.mem_cons]; exact ⟨fun z => z.elim (fun y => absurd y.symm q) id, .inr⟩
      simp only [this]
section
variable {K : Fg} {e : En} {F : Hp} {r : Rho} {s : L2.St} {H : Hp}
/-- slots are forgotten -/
theorem Ok.wipe (k : Ok K e F r s H) (vs : List Nat) : Ok K e F (wipeR r vs) (L2.wipe s vs) H where
  len := by rw [wipeR_length, wipe_length]; exact k.len
  sub := k.sub
  f0 := k.f0
  prot := k.prot
  new := k.new
  dom := k.dom
  slot := fun i d z => by
    rw [wipeR_get] at z
    split at z
    · cases z
    · rename_i q
      rw [wipe_get, ← k.len, if_neg q]
      exact k.slot i d z
  box := fun i b m z => by
    rw [wipeR_get] at z
    split at z
    · cases z
    · rename_i q
      rw [wipe_get, ← k.len, if_neg q]
      exact k.box i b m z
  ob := fun i ns z => by
    rw [wipeR_get] at z
    split at z
    · cases z
    · rename_i q
      rw [wipe_get, ← k.len, if_neg q]
      exact k.ob i ns z
  sep := fun i j p b m b' m' z1 z2 w1 w2 => by
    rw [wipeR_get] at z1 z2
    split at z1
    · cases z1
    · split at z2
      · cases z2
      · rename_i q1 q2
        rw [wipe_get, ← k.len, if_neg q1] at w1
        rw [wipe_get, ← k.len, if_neg q2] at w2
        exact k.sep i j p b m b' m' z1 z2 w1 w2
  adr := fun i n a z => by
    rw [wipeR_get] at z
    split at z
    · cases z
    · rename_i q
      rw [wipe_get, ← k.len, if_neg q]
      exact k.adr i n a z
  gh := fun i G z => by
    rw [wipeR_get] at z
    split at z
    · cases z
    · obtain ⟨g1, g2, g3⟩ := k.gh i G z
      refine ⟨g1, fun j b m p z2 w => ?_, fun j G' z2 => ?_⟩
      · rw [wipeR_get] at z2
        split at z2
        · cases z2
        · rename_i q2
          rw [wipe_get, ← k.len, if_neg q2] at w
          exact g2 j b m p z2 w
      · rw [wipeR_get] at z2
        split at z2
        · cases z2
        · exact g3 j G' z2
  gpF := k.gpF
def noBox (r : Rho) (vs : List Nat) : Bool := vs.all fun v => match r.getD v none with
  | some (.box _ _) => false
  | some (.ob _) => false
  | some (.gh _) => false
  | _ => true
/-- slots come back -/
theorem Ok.back {F0 : Hp} {r0 : Rho} {H0 : Hp} {vs : List Nat} (k0 : Ok K e F0 r0 s H0) (nb : noBox r0 vs = true) (k : Ok K e F r (L2.wipe s vs) H) (q : Sub F0 F) : Ok K e F (backR r r0 vs) s H := by
  have hl : r.length = s.length := k.len.trans (wipe_length s vs)
  have nob : ∀ j ∈ vs, ∀ b m, r0.getD j none ≠ some (Ce.box b m) := fun j hj b m z => by
    have := (List.all_eq_true.mp nb) j hj
    rw [z] at this
    exact Bool.noConfusion this
  have hb : ∀ (j : Nat) b m, (backR r r0 vs)[j]? = some (some (Ce.box b m)) → ¬ (j ∈ vs ∧ j < r.length) ∧ r[j]? = some (some (Ce.box b m)) := fun j b m z => by
    rw [backR_get] at z
    split at z
    · rename_i y; exact absurd (Option.some.inj z) (nob j y.1 b m)
    · rename_i y; exact ⟨y, z⟩
  refine ⟨(backR_length r r0 vs).trans hl, k.sub, k.f0, k.prot, k.new, k.dom, ?_, ?_, ?_, ?_, ?_, ?_, k.gpF⟩
  · intro j d z
    rw [backR_get] at z
    split at z
    · rename_i y
      have z' : r0[j]? = some (some (Ce.val d)) := by
        have h1 := Option.some.inj z
        rw [List.getD_eq_getElem?_getD] at h1
        cases w : r0[j]? with
        | none => rw [w] at h1; cases h1
        | some u => rw [w] at h1; rw [show u = some (Ce.val d) from h1]
      obtain ⟨v, g1, g2⟩ := k0.slot j d z'
      exact ⟨v, g1, g2.mono q⟩
    · rename_i y
      obtain ⟨v, g1, g2⟩ := k.slot j d z
      rw [wipe_get, ← hl, if_neg y] at g1
      exact ⟨v, g1, g2⟩
  · intro j b m z
    obtain ⟨y, z⟩ := hb j b m z
    obtain ⟨p, o, g1, g2⟩ := k.box j b m z
    rw [wipe_get, ← hl, if_neg y] at g1
    exact ⟨p, o, g1, g2⟩
  · intro j ns z
    rw [backR_get] at z
    split at z
    · rename_i y
      have := (List.all_eq_true.mp nb) j y.1
      rw [Option.some.inj z] at this
      exact Bool.noConfusion this
    · rename_i y
      obtain ⟨a, g1, g2⟩ := k.ob j ns z
      rw [wipe_get, ← hl, if_neg y] at g1
      exact ⟨a, g1, g2⟩
  · intro i j p b m b' m' z1 z2 w1 w2
    obtain ⟨y1, z1⟩ := hb i b m z1
    obtain ⟨y2, z2⟩ := hb j b' m' z2
    refine k.sep i j p b m b' m' z1 z2 ?_ ?_
    · rw [wipe_get, ← hl, if_neg y1]; exact w1
    · rw [wipe_get, ← hl, if_neg y2]; exact w2
  · intro j n a z
    rw [backR_get] at z
    split at z
    · rename_i y
      have z' : r0[j]? = some (some (Ce.adr n a)) := by
        have h1 := Option.some.inj z
        rw [List.getD_eq_getElem?_getD] at h1
        cases w : r0[j]? with
        | none => rw [w] at h1; cases h1
        | some u => rw [w] at h1; rw [show u = some (Ce.adr n a) from h1]
      exact k0.adr j n a z'
    · rename_i y
      have g1 := k.adr j n a z
      rw [wipe_get, ← hl, if_neg y] at g1
      exact g1
  · intro j G z
    have hg : ∀ (j : Nat) G, (backR r r0 vs)[j]? = some (some (Ce.gh G)) → r[j]? = some (some (Ce.gh G)) := fun j G z => by
      rw [backR_get] at z
      split at z
      · rename_i y
        have := (List.all_eq_true.mp nb) j y.1
        rw [Option.some.inj z] at this
        exact Bool.noConfusion this
      · exact z
    obtain ⟨g1, g2, g3⟩ := k.gh j G (hg j G z)
    refine ⟨g1, fun j2 b m p z2 w => ?_, fun j2 G' z2 => g3 j2 G' (hg j2 G' z2)⟩
    obtain ⟨y, z3⟩ := hb j2 b m z2
    refine g2 j2 b m p z3 ?_
    rw [wipe_get, ← hl, if_neg y]; exact w
theorem nb_back {r0 : Rho} {vs : List Nat} {p : Addr} (hl : r.length = s.length) (nb : noBox r0 vs = true) (g : NB r (L2.wipe s vs) p) : NB (backR r r0 vs) s p := by
  refine ⟨fun j b m' z y => ?_, fun j G z => ?_⟩
  · rw [backR_get] at z
    split at z
    · rename_i yy
      have := (List.all_eq_true.mp nb) j yy.1
      rw [Option.some.inj z] at this
      exact Bool.noConfusion this
    · rename_i yy
      refine g.1 j b m' z ?_
      rw [wipe_get, ← hl, if_neg yy]
      exact y
  · rw [backR_get] at z
    split at z
    · rename_i yy
      have := (List.all_eq_true.mp nb) j yy.1
      rw [Option.some.inj z] at this
      exact Bool.noConfusion this
    · exact g.2 j G z
/-- one more thing that stays -/
def En.keep (e : En) (p : Addr) (o : HO) : En := ⟨e.F0, upd e.P p o, e.old, e.prm, e.gp⟩
theorem Ok.keep {p : Addr} {o : HO} (k : Ok K e F r s H) (h : H p = some o) (hF : F p = none) (hb : NB r s p) : Ok K (e.keep p o) F r s H where
  len := k.len
  sub := k.sub
  f0 := k.f0
  prot := fun a u q => by
    by_cases z : a = p
    · subst z; rw [show (e.keep a o).P = upd e.P a o from rfl, upd_same] at q; cases q; exact h
    · rw [show (e.keep p o).P = upd e.P p o from rfl, upd_ne z] at q; exact k.prot a u q
  new := fun a u q => by
    by_cases z : a = p
    · subst z; rw [hF] at q; cases q
    · rw [show (e.keep p o).P = upd e.P p o from rfl, upd_ne z]; exact k.new a u q
  dom := k.dom
  slot := k.slot
  box := fun i b m z => by
    obtain ⟨q, u, g1, g2, g3, g4, g5, g6⟩ := k.box i b m z
    have ne : q ≠ p := fun y => by subst y; exact hb.1 i b m z g1
    exact ⟨q, u, g1, g2, g3, g4, by rw [show (e.keep p o).P = upd e.P p o from rfl, upd_ne ne]; exact g5, g6⟩
  ob := k.ob
  sep := k.sep
  adr := k.adr
  gh := fun i G z => by
    obtain ⟨g1, g2, g3⟩ := k.gh i G z
    refine ⟨g1.move (Sub.refl F) (fun q w u x => x) (fun q w => (g1.fr q w).1) fun q w => ⟨?_, (g1.fr q w).2.2.1⟩, g2, g3⟩
    rw [show (e.keep p o).P = upd e.P p o from rfl, upd_ne (fun y => by subst y; exact hb.2 i G z w)]
    exact (g1.fr q w).2.1
  gpF := k.gpF
theorem Ok.unkeep {p : Addr} {o : HO} (k : Ok K (e.keep p o) F r s H) (hP : e.P p = none) (hF0 : e.F0 p = none) (hnt : ∀ xs, o ≠ .tup xs := by first | (intro _ z; cases z) | (intro _ z; have z' : HO.ext _ = HO.tup _ := z; cases z')) : Ok K e F r s H ∧ H p = some o ∧ F p = none ∧ NB r s p := by
  have hp : (e.keep p o).P p = some o := upd_same
  have hF : F p = none := by
    cases q : F p with
    | none => rfl
    | some u =>
      rcases k.new p u q with z | z | ⟨xs, z⟩
      · rw [show (e.keep p o).F0 = e.F0 from rfl, hF0] at z; cases z
      · rw [hp] at z; cases z
      · have h1 := k.sub p u q
        rw [k.prot p o hp, z] at h1
        exact absurd (Option.some.inj h1) (hnt xs)
  refine ⟨⟨k.len, k.sub, k.f0, fun a u q => ?_, fun a u q => ?_, k.dom, k.slot, fun i b m z => ?_, k.ob, k.sep, k.adr, fun i G z => ?_, k.gpF⟩, k.prot p o hp, hF, fun i b m z y => ?_, fun i G z w => ?_⟩
  · refine k.prot a u ?_
    rw [show (e.keep p o).P = upd e.P p o from rfl, upd_ne (ne_of_none q hP)]
    exact q
  · rcases k.new a u q with z | z | z
    · exact .inl z
    · by_cases y : a = p
      · subst y; rw [hp] at z; cases z
      · rw [show (e.keep p o).P = upd e.P p o from rfl, upd_ne y] at z; exact .inr (.inl z)
    · exact .inr (.inr z)
  · obtain ⟨q, u, g1, g2, g3, g4, g5, g6⟩ := k.box i b m z
    have ne : q ≠ p := fun y => by subst y; rw [hp] at g5; cases g5
    exact ⟨q, u, g1, g2, g3, g4, by rw [show (e.keep p o).P = upd e.P p o from rfl, upd_ne ne] at g5; exact g5, g6⟩
  · obtain ⟨g1, g2, g3⟩ := k.gh i G z
    refine ⟨g1.move (Sub.refl F) (fun q w u x => x) (fun q w => (g1.fr q w).1) fun q w => ⟨?_, (g1.fr q w).2.2.1⟩, g2, g3⟩
    have g5 := (g1.fr q w).2.1
    have ne : q ≠ p := fun y => by subst y; rw [hp] at g5; cases g5
    rw [show (e.keep p o).P = upd e.P p o from rfl, upd_ne ne] at g5
    exact g5
  · obtain ⟨q, u, g1, _, _, _, g5, _⟩ := k.box i b m z
    rw [y] at g1; cases g1
    rw [hp] at g5; cases g5
  · have g5 := ((k.gh i G z).1.fr p w).2.1
    rw [hp] at g5; cases g5
/-- what is kept is changed -/
theorem Ok.rekeep {p : Addr} {o o' : HO} (k : Ok K (e.keep p o) F r s H) (hP : e.P p = none) (hF0 : e.F0 p = none) (hnt : ∀ xs, o ≠ .tup xs := by first | (intro _ z; cases z) | (intro _ z; have z' : HO.ext _ = HO.tup _ := z; cases z')) : Ok K (e.keep p o') F r s (upd H p o') := by
  obtain ⟨k1, g1, g2, g3⟩ := k.unkeep hP hF0 hnt
  have k2 : Ok K e F r s (upd H p o') := by
    refine ⟨k1.len, fun a u q => ?_, k1.f0, fun a u q => ?_, k1.new, fun a z => ?_, k1.slot, fun i b m z => ?_, k1.ob, k1.sep, k1.adr, fun i G z => ?_, k1.gpF⟩
    · rw [upd_ne (ne_of_none q g2)]; exact k1.sub a u q
    · rw [upd_ne (ne_of_none q hP)]; exact k1.prot a u q
    · by_cases y : a = p
      · subst y; rw [upd_same]; simp
      · rw [upd_ne y]; exact k1.dom a z
    · obtain ⟨q, u, w1, w2, w3⟩ := k1.box i b m z
      have ne : q ≠ p := fun y => by subst y; exact g3.1 i b m z w1
      exact ⟨q, u, w1, by rw [upd_ne ne]; exact w2, w3⟩
    · obtain ⟨y1, y2, y3⟩ := k1.gh i G z
      refine ⟨y1.move (Sub.refl F) (fun q w u x => ?_) (fun q w => (y1.fr q w).1) fun q w => ⟨(y1.fr q w).2.1, (y1.fr q w).2.2.1⟩, y2, y3⟩
      rw [upd_ne (fun t => by subst t; exact g3.2 i G z w)]; exact x
  exact k2.keep upd_same g2 g3
end
def lcM (vs : List Nat) (g : GT) (tt : MT) (te : ME) (P : List D → Rho → Prop) : List D → List D → Rho → Prop
  | [], acc, r => P acc r
  | d :: ds, acc, r => onS (g d r) fun r1 => tt r1 fun b r2 => brK b (te r2 fun x r3 => onP (hold r3 x.tmp) fun qa qb => Rq (acc.length < sizeLine) (strict (wipeR qb vs) fun r4 => lcM vs g tt te P ds (acc ++ [qa]) r4)) (strict (wipeR r2 vs) fun r4 => lcM vs g tt te P ds acc r4)
/-- a comprehension: here a proof speaks -/
structure Lc (vs : List Nat) (g : GT) (tt : MT) (te : ME) (P : List D → Rho → Prop) (ds acc : List D) (r : Rho) : Prop where
  h : lcM vs g tt te P ds acc r
def mLc (vs : List Nat) (mi : MI) (g : GT) (tt : MT) (te : ME) : ME := fun r P => mi r fun ds r1 => rqB (noBox r1 vs) (strict (wipeR r1 vs) fun r0 => Lc vs g tt te (fun acc r2 => strict (backR r2 r1 vs) fun r3 => P (.own (.L acc)) r3) ds [] r0)
def bYes : MT := fun r P => P true r
def DTs (X : Cx) (ifs : List Expr) (m : MT) : Prop := ∀ e, PTs X ifs (TB X.K e m)
theorem PTs.imp {X : Cx} {a : List Expr} {t u : TT} (h : PTs X a t) (i : ∀ s H Q, u s H Q → t s H Q) : PTs X a u := ⟨fun pins s σ H Q I q => h.run pins s σ H Q I (i _ _ _ q)⟩
section
variable {X : Cx} {elt tg iter c : Expr} {ifs : List Expr} {scope : Scope} {own : List (Str × Nat)} {pos : Pos} {mi : MI} {g : GT} {tt : MT} {te : ME} {vs : List Nat}
theorem dts_nil : DTs X [] bYes := fun e => PTs.imp pts_nil fun s H Q ⟨F, r, k, P, hm, hP⟩ => hP _ r F H hm k (Sub.refl F)
theorem dts_one (h : DT X c tt) : DTs X [c] tt := fun e => pts_one (h e)
theorem lc_read {e : En} (hvs : vs = own.map (·.2)) {s : L2.St} {H : Hp} {Q : VK} (h : T X.K e (mLc vs mi g tt te) s H Q) :
    ∀ (tg' : TG) (tt' : TT) (te' : TE), (∀ e', ∀ v s H Q, TGt X.K e' vs g v s H Q → tg' v s H Q) → (∀ e', ∀ s H Q, TB X.K e' tt s H Q → tt' s H Q) → (∀ e', ∀ s H Q, Tt X.K e' (mTmp te) s H Q → te' s H Q) → tLc (TIt X.K e mi) tg' tt' te' (own.map (·.2)) s H Q := by
  intro tg' tt' te' i1 i2 i3
  rw [← hvs]
  obtain ⟨F, r, k, P, hm, hP⟩ := h
  refine ⟨F, r, k, _, hm, fun ds r1 F1 H1 J hx k1 q1 ok p hp => ?_⟩
  obtain ⟨nb, hx2⟩ := rqB.ex hx
  have hl := hx2.ex.h
  clear hx hx2
  have fr := k1.free hp
  have hF0 : e.F0 p = none := by
    cases q : e.F0 p with
    | none => rfl
    | some u => rw [k1.f0 p u q] at fr; cases fr.1
  have nb1 := k1.nobox hp
  refine ⟨fun i m H => ∃ F r xs acc, Ok X.K (e.keep p (.lst xs)) F r (wipe s vs) H ∧ Sub F1 F ∧ RpA X.K F xs acc ∧ i ≤ ds.length ∧ m = ds.length - i ∧ lcM vs g tt te (fun acc r2 => strict (backR r2 r1 vs) fun r3 => P (.own (.L acc)) r3) (ds.drop i) acc r, ?_, ?_⟩
  · have kw : Ok X.K e F1 (wipeR r1 vs) (wipe s vs) (upd H1 p (.lst [])) := (k1.wipe vs).alloc hp
    exact ⟨_, F1, _, [], [], kw.keep upd_same fr.1 ((k1.wipe vs).nobox hp), Sub.refl _, .nil, Nat.zero_le _, rfl, by rw [List.drop_zero]; exact hl⟩
  · rintro i m H2 ⟨F2, r2, xs, acc, k2, q2, ra, hi, rfl, hl2⟩
    by_cases hn : i < ds.length
    · refine .inr ⟨ok.go i H2 (q2.trans k2.sub) hn, fun H => ∃ F r xs acc, Ok X.K (e.keep p (.lst xs)) F r (wipe s vs) H ∧ Sub F1 F ∧ RpA X.K F xs acc ∧ lcM vs g tt te (fun acc r2 => strict (backR r2 r1 vs) fun r3 => P (.own (.L acc)) r3) (ds.drop (i + 1)) acc r, fun H3 ⟨F3, r3, xs3, acc3, k3, q3, ra3, hl3⟩ => ⟨_, by omega, F3, r3, xs3, acc3, k3, q3, ra3, hn, rfl, hl3⟩, fun x H3 hy => ?_⟩
      obtain ⟨d, ed, F3, k3, q3, rp⟩ := ok.yld i H2 x H3 hy _ F2 r2 _ k2 q2 hn
      rw [drop_cons ed] at hl2
      obtain ⟨r4, eg, hb4⟩ := onS.ex hl2
      refine i1 _ _ _ _ _ ⟨F3, r2, d, r4, k3, rp, eg, fun s5 F5 H5 k5 q5 w5 => ⟨w5.trans ?_, i2 _ _ _ _ ⟨F5, r4, k5, _, hb4, fun b r6 F6 H6 hb6 k6 q6 => ?_⟩⟩⟩
      · apply List.ext_getElem?
        intro j
        rw [wipe_get, wipe_get, wipe_length]
        split <;> rfl
      · have ww : wipe s5 vs = wipe s vs := w5.trans (by
          apply List.ext_getElem?
          intro j
          rw [wipe_get, wipe_get, wipe_length]
          split <;> rfl)
        have q16 : Sub F1 F6 := ((q2.trans q3).trans q5).trans q6
        have q26 : Sub F2 F6 := (q3.trans q5).trans q6
        cases b with
        | false =>
          have hb6 := strict.ex hb6
          refine iteF ?_
          refine ⟨F6, _, xs, acc, ?_, q16, ra.mono q26, hb6⟩
          rw [← ww]
          exact k6.wipe vs
        | true =>
          refine iteT ?_
          refine i3 _ _ _ _ ⟨F6, r6, k6, fun x r3 => onP (hold r3 x) fun qa qb => Rq (acc.length < sizeLine) (strict (wipeR qb vs) fun r4 => lcM vs g tt te (fun acc r2 => strict (backR r2 r1 vs) fun r3 => P (.own (.L acc)) r3) (ds.drop (i + 1)) (acc ++ [qa]) r4), hb6, fun y r7 v7 F7 H7 hx7 k7 q7 t7 => ?_⟩
          obtain ⟨d', r8, eh, hx8⟩ := onP.ex hx7
          have hz := Rq.c hx8
          have hl8 := (Rq.a hx8).ex
          obtain ⟨F8, k8, q8, rp8⟩ := t7.hold k7 eh
          obtain ⟨_, g1, _, _⟩ := k8.unkeep fr.2.1 hF0
          have q28 : Sub F2 F8 := (q26.trans q7).trans q8
          refine ⟨xs, g1, by rw [ra.length]; exact hz, F8, _, xs ++ [v7], acc ++ [d'], ?_, (q16.trans q7).trans q8, (ra.mono q28).append (.cons rp8 .nil), hl8⟩
          rw [← ww]
          exact (k8.rekeep fr.2.1 hF0).wipe vs
    · have e0 : i = ds.length := by omega
      subst e0
      rw [List.drop_length] at hl2
      obtain ⟨k3, g1, g2, g3⟩ := k2.unkeep fr.2.1 hF0
      have kb := k1.back nb k3 q2
      refine .inl ⟨ok.stop _ H2 (q2.trans k2.sub) (Nat.le_refl _), hP _ _ _ F2 H2 (strict.ex hl2) kb (q1.trans q2) (.own g1 (.L ra) g2 fr.2.1 fr.2.2 (nb_back (k2.len.trans (wipe_length s vs)) nb g3))⟩
theorem de_lc (hc : X.calm = true) (hN : X.N.Nodup) (hi : DI X tg iter mi) (ok : BlkOk X.N X.env.scope scope own)
    (hg : ∀ (s : Shared) (H : Hp) (C : Addr) (cl : List (Str × Addr)) (fp : List Addr), DG (X.blk s H scope (compEnvC scope cl C X.env) fp) tg (own.map (·.2)) g) (ht : ∀ (s : Shared) (H : Hp) (C : Addr) (cl : List (Str × Addr)) (fp : List Addr), DTs (X.blk s H scope (compEnvC scope cl C X.env) fp) ifs tt)
    (he : ∀ (s : Shared) (H : Hp) (C : Addr) (cl : List (Str × Addr)) (fp : List Addr), DE (X.blk s H scope (compEnvC scope cl C X.env) fp) elt te) (hs : ∀ x, foldedSetIterable iter X.env x = pure x := by intro _; rfl) :
    DE X (.ListComp elt [⟨tg, iter, ifs, 0⟩] scope pos) (mLc (own.map (·.2)) mi g tt te) := fun e => by
  refine PE.imp (pe_lc (g := fun v s H Q => ∃ e', TGt X.K e' (own.map (·.2)) g v s H Q) (tt := fun s H Q => ∃ e', TB X.K e' tt s H Q) (te := fun s H Q => ∃ e', Tt X.K e' (mTmp te) s H Q) hc hN (hi e) ok
    (fun s H C cl fp => ⟨fun pins s σ H v u Q I r ⟨e', q⟩ => (hg _ _ C cl fp e').run pins s σ H v u Q I r q⟩) (fun s H C cl fp => ⟨fun pins s σ H Q I ⟨e', q⟩ => (ht _ _ C cl fp e').run pins s σ H Q I q⟩) (fun s H C cl fp => ⟨fun pins s σ H Q I ⟨e', q⟩ => ((he _ _ C cl fp).tmp e').run pins s σ H Q I q⟩) hs) ?_
  exact fun s H Q h => lc_read rfl h _ _ _ (fun e' _ _ _ _ q => ⟨e', q⟩) (fun e' _ _ _ q => ⟨e', q⟩) fun e' _ _ _ q => ⟨e', q⟩
end
end DL
namespace DL
open PySem L2 PyProof.Rows
/-- an argument -/
inductive Ar where
  | val (d : D) | box (m : MB) | ob (o : Ob) | adr (n : Nat) (a : Addr) | gh (G : Gh)
abbrev Ar.scr (ns : List Int) : Ar := .ob (.scr ns)
/-- a contract: the arguments; what is wanted of the answer and of the arguments behind -/
abbrev Ct := List Ar → (R → List Ar → Prop) → Prop
inductive ArOk (K : Fg) (F H : Hp) : Ar → V → Prop
  | val {v : V} {d : D} : Rp K F v d → ArOk K F H (.val d) v
  | box {p : Addr} {o : HO} {m : MB} : H p = some o → MO K F o m → F p = none → ArOk K F H (.box m) (.ref p)
  | ob {v : V} {o : Ob} : ObOk K F v o → ArOk K F H (.ob o) v
  | adr {n : Nat} {a : Addr} : ArOk K F H (.adr n a) (.ref a)
/-- nodes that are handed in, and told behind -/
structure GhArg (K : Fg) (F H : Hp) (G : Gh) : Prop where
  nd : (fp G).Nodup
  at' : ∀ x ∈ G, NdOk K F H x
  fr : ∀ p ∈ fp G, F p = none ∧ H p ≠ none
inductive ArsOk (K : Fg) (F H : Hp) : List Ar → List V → Prop
  | nil : ArsOk K F H [] []
  | gh {G : Gh} : GhArg K F H G → ArsOk K F H [.gh G] []
  | cons {a : Ar} {v : V} {as : List Ar} {vs : List V} : ArOk K F H a v → ArsOk K F H as vs → ArsOk K F H (a :: as) (v :: vs)
/-- p is the address of a box among the arguments -/
def IsBox (as : List Ar) (vs : List V) (p : Addr) : Prop := ∃ (i : Nat) (m : MB), as[i]? = some (.box m) ∧ vs[i]? = some (.ref p)
/-- p is a node's among the arguments -/
def IsGh (as : List Ar) (p : Addr) : Prop := ∃ (i : Nat) (G : Gh), as[i]? = some (.gh G) ∧ p ∈ fp G
/-- no two boxes are one, no box is a node -/
def Apart (as : List Ar) (vs : List V) : Prop := (∀ (i : Nat) p m, as[i]? = some (Ar.box m) → vs[i]? = some (V.ref p) → ¬ IsGh as p) ∧ ∀ (i j : Nat) p m m', as[i]? = some (Ar.box m) → as[j]? = some (Ar.box m') → vs[i]? = some (V.ref p) → vs[j]? = some (V.ref p) → i = j
theorem ArsOk.get {K : Fg} {F H : Hp} : ∀ {as : List Ar} {vs : List V} {i : Nat} {a : Ar}, ArsOk K F H as vs → as[i]? = some a → (∀ G, a ≠ .gh G) → ∃ v, vs[i]? = some v ∧ ArOk K F H a v
  | _, _, _, _, .nil, e, _ => by simp at e
  | _, _, 0, _, .gh _, e, n => by simp at e; subst e; exact absurd rfl (n _)
  | _, _, _ + 1, _, .gh _, e, _ => by simp at e
  | _, _, 0, _, .cons h _, e, _ => by simp at e; subst e; exact ⟨_, rfl, h⟩
  | _, _, i + 1, a, .cons _ r, e, n => by
    obtain ⟨v, e1, h⟩ := ArsOk.get (i := i) (a := a) r (by simpa using e) n
    exact ⟨v, by simpa using e1, h⟩
theorem ArsOk.ghAt {K : Fg} {F H : Hp} : ∀ {as : List Ar} {vs : List V} {i : Nat} {G : Gh}, ArsOk K F H as vs → as[i]? = some (.gh G) → i = vs.length ∧ GhArg K F H G
  | _, _, _, _, .nil, e => by simp at e
  | _, _, 0, _, .gh h, e => by simp at e; subst e; exact ⟨rfl, h⟩
  | _, _, _ + 1, _, .gh _, e => by simp at e
  | _, _, 0, _, .cons h _, e => by simp at e; subst e; cases h
  | _, _, i + 1, G, .cons _ r, e => by
    obtain ⟨e1, h⟩ := ArsOk.ghAt (i := i) (G := G) r (by simpa using e)
    exact ⟨by rw [e1, List.length_cons], h⟩
theorem ArsOk.length {K : Fg} {F H : Hp} : ∀ {as : List Ar} {vs : List V}, ArsOk K F H as vs → vs.length ≤ as.length
  | _, _, .nil => Nat.le_refl _
  | _, _, .gh _ => Nat.zero_le _
  | _, _, .cons _ r => by rw [List.length_cons, List.length_cons]; exact Nat.succ_le_succ (ArsOk.length r)
/-- the answer of a call: what stood at its entry is H -/
inductive ReOk (K : Fg) (F' H H' : Hp) : R → V → Prop
  | val {v : V} {d : D} : Rp K F' v d → ReOk K F' H H' (.val d) v
  | own {p : Addr} {o : HO} {m : MB} : H p = none → H' p = some o → MO K F' o m → F' p = none → ReOk K F' H H' (.own m) (.ref p)
  | adr {n : Nat} {a : Addr} : ReOk K F' H H' (.adr n a) (.ref a)
/-- what a call has done -/
structure Did (K : Fg) (F H : Hp) (as : List Ar) (vs : List V) (F' H' : Hp) (as' : List Ar) : Prop where
  sub : Sub F F'
  subH : Sub F' H'
  new : ∀ a o, F' a = some o → F a = some o ∨ H a = none ∨ ∃ xs, o = .tup xs
  keep : ∀ a o, H a = some o → ¬ IsBox as vs a → ¬ IsGh as a → H' a = some o
  dom : ∀ a, H a ≠ none → H' a ≠ none
  len : as'.length = as.length
  box : ∀ (i : Nat) m p, as[i]? = some (.box m) → vs[i]? = some (.ref p) → ∃ m' o, as'[i]? = some (.box m') ∧ H' p = some o ∧ MO K F' o m' ∧ F' p = none
  gh : ∀ (i : Nat) G, as[i]? = some (.gh G) → ∃ G', as'[i]? = some (.gh G') ∧ GhArg K F' H' G' ∧ (∀ p ∈ fp G', p ∈ fp G ∨ H p = none) ∧ ∀ (j : Nat) m p, as[j]? = some (.box m) → vs[j]? = some (.ref p) → p ∉ fp G'
  gpF : ∀ p, IsGh as p → ∀ o, F' p = some o → ∃ xs, o = .tup xs
def spD (K : Fg) (n : Nat) (c : Ct) : Sp := fun vs H Q _ => ∃ F as, vs.length = n ∧ Sub F H ∧ ArsOk K F H as vs ∧ Apart as vs ∧ ∃ P, c as P ∧ ∀ x as' v F' H', P x as' → Did K F H as vs F' H' as' → ReOk K F' H H' x v → Q v H'
structure FnD (P : Program) (w : World) (K : Fg) (mg : Str → Option Value) (base : Heap) (k : Nat) (f : Addr) (fd : FuncData) (ps : List Str) (c : Ct) : Prop where
  run : ∀ (A : Around) (outer : List Env) (s : Shared) (H : Hp) (args : Args) (us : List Value) (vs : List V) (Q : VK) (E : XK), Room k A → A.guards = some [] → Env0 P w K mg base A outer s H → BindsTo s fd args (ps.zip us) → Vals vs us → spD K ps.length c vs H Q E →
    codeAny (model P w) A (.call (.ref f) args) (CR CX0 outer P w H s Q E) s
theorem FnD.mono {P : Program} {w : World} {K : Fg} {mg : Str → Option Value} {base : Heap} {j k : Nat} {f : Addr} {fd : FuncData} {ps : List Str} {c : Ct} (F : FnD P w K mg base j f fd ps c) (h : j ≤ k) : FnD P w K mg base k f fd ps c :=
  ⟨fun A outer s H args us vs Q E hr => F.run A outer s H args us vs Q E (hr.mono h)⟩
/-- a stronger contract -/
theorem FnD.imp {P : Program} {w : World} {K : Fg} {mg : Str → Option Value} {base : Heap} {k : Nat} {f : Addr} {fd : FuncData} {ps : List Str} {c c' : Ct} (F : FnD P w K mg base k f fd ps c) (h : ∀ as P, c' as P → c as P) : FnD P w K mg base k f fd ps c' :=
  ⟨fun A outer s H args us vs Q E hr hg he hb hv ⟨G, as, h1, h2, h3, h4, P, h5, h6⟩ => F.run A outer s H args us vs Q E hr hg he hb hv ⟨G, as, h1, h2, h3, h4, P, h _ _ h5, h6⟩⟩
def cellOf : Ar → Ce
  | .val d => .val d
  | .box m => .box true m
  | .ob ns => .ob ns
  | .adr n a => .adr n a
  | .gh G => .gh G
def startR (n : Nat) (as : List Ar) : Rho := as.map (fun a => some (cellOf a)) ++ List.replicate (n - as.length) none
open Classical in
noncomputable def enOf (F H : Hp) (as : List Ar) (vs : List V) : En := ⟨F, fun a => if IsBox as vs a ∨ IsGh as a then none else H a, fun a => H a ≠ none, fun i => match as[i]?, vs[i]? with
  | some (.box _), some (.ref p) => some p
  | _, _ => none, fun a => IsGh as a⟩
theorem startR_get {n : Nat} {as : List Ar} {i : Nat} {c : Ce} (h : (startR n as)[i]? = some (some c)) : ∃ a, as[i]? = some a ∧ c = cellOf a := by
  unfold startR at h
  by_cases hi : i < as.length
  · rw [List.getElem?_append_left (by simpa using hi), List.getElem?_map, List.getElem?_eq_getElem hi] at h
    exact ⟨_, List.getElem?_eq_getElem hi, (Option.some.inj (Option.some.inj h)).symm⟩
  · rw [List.getElem?_append_right (by simpa using hi), List.getElem?_replicate] at h
    split at h <;> cases h
theorem start_get {N : List Str} {vs : List V} {i : Nat} {v : V} (h : vs[i]? = some v) : (start N vs)[i]? = some (some v) := by
  unfold L2.start
  have hi := (List.getElem?_eq_some_iff.mp h).1
  rw [List.getElem?_append_left (by simpa using hi), List.getElem?_map, h]
  rfl
theorem start_of {N : List Str} {vs : List V} {i : Nat} {v : V} (h : (start N vs)[i]? = some (some v)) : vs[i]? = some v := by
  unfold L2.start at h
  by_cases hi : i < vs.length
  · rw [List.getElem?_append_left (by simpa using hi), List.getElem?_map] at h
    cases q : vs[i]? with
    | none => rw [q] at h; cases h
    | some u => rw [q] at h; cases h; rfl
  · rw [List.getElem?_append_right (by simpa using hi), List.getElem?_replicate] at h
    split at h <;> cases h
section
variable {K : Fg} {F H : Hp} {as : List Ar} {vs : List V} {N : List Str}
theorem Ok.start (hn : as.length ≤ N.length) (hs : Sub F H) (ha : ArsOk K F H as vs) (hp : Apart as vs) : Ok K (enOf F H as vs) F (startR N.length as) (L2.start N vs) H where
  len := by
    unfold startR L2.start
    rw [List.length_append, List.length_append, List.length_map, List.length_map, List.length_replicate, List.length_replicate]
    have := ha.length
    omega
  sub := hs
  f0 := Sub.refl F
  prot := fun a o q => by
    simp only [enOf] at q
    split at q
    · cases q
    · exact q
  new := fun a o q => .inl q
  dom := fun a z => z
  slot := fun i d z => by
    obtain ⟨a, e1, e2⟩ := startR_get z
    cases a with
    | val d' =>
      cases e2
      obtain ⟨v, g1, g2⟩ := ha.get e1 (by intro _ q; cases q)
      cases g2 with | val rp => exact ⟨v, start_get g1, rp⟩
    | box m => cases e2
    | ob ns => cases e2
    | adr n a => cases e2
    | gh G => cases e2
  box := fun i b m z => by
    obtain ⟨a, e1, e2⟩ := startR_get z
    cases a with
    | val d' => cases e2
    | ob ns => cases e2
    | adr n a => cases e2
    | gh G => cases e2
    | box m' =>
      cases e2
      obtain ⟨v, g1, g2⟩ := ha.get e1 (by intro _ q; cases q)
      cases g2 with
      | @box p o _ h1 h2 h3 =>
        refine ⟨p, o, start_get g1, h1, h2, h3, if_pos (.inl ⟨i, _, e1, g1⟩), fun z => Bool.noConfusion z, fun _ => ?_⟩
        simp only [enOf, e1, g1]
  ob := fun i ns z => by
    obtain ⟨a, e1, e2⟩ := startR_get z
    cases a with
    | val d' => cases e2
    | box m => cases e2
    | adr n a => cases e2
    | gh G => cases e2
    | ob ns' =>
      cases e2
      obtain ⟨v, g1, g2⟩ := ha.get e1 (by intro _ q; cases q)
      cases g2 with | ob h => exact ⟨_, start_get g1, h⟩
  sep := fun i j p b m b' m' z1 z2 w1 w2 => by
    obtain ⟨a, e1, e2⟩ := startR_get z1
    obtain ⟨a', e3, e4⟩ := startR_get z2
    cases a with
    | val d' => cases e2
    | ob ns => cases e2
    | adr n a => cases e2
    | gh G => cases e2
    | box m1 =>
      cases a' with
      | val d' => cases e4
      | ob ns => cases e4
      | adr n a => cases e4
      | gh G => cases e4
      | box m2 => exact hp.2 i j p _ _ e1 e3 (start_of w1) (start_of w2)
  adr := fun i n a z => by
    obtain ⟨x, e1, e2⟩ := startR_get z
    cases x <;> cases e2
    obtain ⟨v, g1, g2⟩ := ha.get e1 (by intro _ q; cases q)
    cases g2
    exact start_get g1
  gh := fun i G z => by
    have isg : ∀ {i : Nat} {G : Gh}, (startR N.length as)[i]? = some (some (Ce.gh G)) → as[i]? = some (.gh G) := fun {i G} z => by
      obtain ⟨x, e1, e2⟩ := startR_get z
      cases x <;> cases e2
      exact e1
    have e1 := isg z
    obtain ⟨e3, g⟩ := ha.ghAt e1
    refine ⟨⟨g.nd, g.at', fun p hp => ⟨(g.fr p hp).1, if_pos (.inr ⟨i, G, e1, hp⟩), fun _ => ⟨i, G, e1, hp⟩, (g.fr p hp).2⟩⟩, fun j b m p z2 w hp' => ?_, fun j G' z2 => ?_⟩
    · obtain ⟨x, e4, e5⟩ := startR_get z2
      cases x <;> cases e5
      exact hp.1 j p m e4 (start_of w) ⟨i, G, e1, hp'⟩
    · exact (ha.ghAt (isg z2)).1.trans e3.symm
  gpF := fun p ⟨i, G, e1, hp⟩ => ⟨fun o z => (by rw [((ha.ghAt e1).2.fr p hp).1] at z; cases z), ((ha.ghAt e1).2.fr p hp).2⟩
end
def retOf (r : Rho) : R → Option R
  | .val d => some (.val d)
  | .own m => some (.own m)
  | .bor i => match r[i]? with
    | some (some (.box false m)) => some (.own m)
    | _ => none
  | .ob _ => none
  | .adr n a => some (.adr n a)
/-- the arguments behind: the boxes and nodes as they are now -/
def endArs : Nat → List Ar → Rho → Option (List Ar)
  | _, [], _ => some []
  | i, .box _ :: as, r => match r[i]?, endArs (i + 1) as r with
    | some (some (.box true m)), some as' => some (.box m :: as')
    | _, _ => none
  | i, .gh _ :: as, r => match r[i]?, endArs (i + 1) as r with
    | some (some (.gh G)), some as' => some (.gh G :: as')
    | _, _ => none
  | i, a :: as, r => (endArs (i + 1) as r).map (a :: ·)
def EndOk (j : Nat) (as as' : List Ar) (r : Rho) : Prop := as'.length = as.length ∧ (∀ (i : Nat) m, as[i]? = some (Ar.box m) → ∃ m', as'[i]? = some (.box m') ∧ r[j + i]? = some (some (.box true m'))) ∧ ∀ (i : Nat) G, as[i]? = some (Ar.gh G) → ∃ G', as'[i]? = some (.gh G') ∧ r[j + i]? = some (some (.gh G'))
theorem EndOk.cons {j : Nat} {a a' : Ar} {as as' : List Ar} {r : Rho} (h : EndOk (j + 1) as as' r) (hb : ∀ m, a = .box m → ∃ m', a' = .box m' ∧ r[j]? = some (some (.box true m'))) (hg : ∀ G, a = .gh G → ∃ G', a' = .gh G' ∧ r[j]? = some (some (.gh G'))) : EndOk j (a :: as) (a' :: as') r := by
  obtain ⟨l, q, w⟩ := h
  refine ⟨by rw [List.length_cons, List.length_cons, l], fun i m z => ?_, fun i G z => ?_⟩
  · cases i with
    | zero =>
      obtain ⟨m', e1, e2⟩ := hb m (by simpa using z)
      exact ⟨m', by simp [e1], e2⟩
    | succ i =>
      obtain ⟨m', g1, g2⟩ := q i m (by simpa using z)
      exact ⟨m', by simpa using g1, by rw [← g2]; congr 1; omega⟩
  · cases i with
    | zero =>
      obtain ⟨m', e1, e2⟩ := hg G (by simpa using z)
      exact ⟨m', by simp [e1], e2⟩
    | succ i =>
      obtain ⟨m', g1, g2⟩ := w i G (by simpa using z)
      exact ⟨m', by simpa using g1, by rw [← g2]; congr 1; omega⟩
theorem endArs_get : ∀ {as as' : List Ar} {j : Nat} {r : Rho}, endArs j as r = some as' → EndOk j as as' r
  | [], as', j, r, h => by cases h; exact ⟨rfl, fun i m z => by simp at z, fun i m z => by simp at z⟩
  | .box m0 :: as, as', j, r, h => by
    simp only [endArs] at h
    split at h
    · rename_i m1 as1 e1 e2
      cases h
      exact (endArs_get e2).cons (fun m q => ⟨m1, rfl, e1⟩) (fun G q => by cases q)
    · cases h
  | .gh m0 :: as, as', j, r, h => by
    simp only [endArs] at h
    split at h
    · rename_i m1 as1 e1 e2
      cases h
      exact (endArs_get e2).cons (fun m q => by cases q) (fun G q => ⟨m1, rfl, e1⟩)
    · cases h
  | .val d :: as, as', j, r, h => by
    simp only [endArs, Option.map_eq_some_iff] at h
    obtain ⟨as1, e2, rfl⟩ := h
    exact (endArs_get e2).cons (fun m q => by cases q) (fun G q => by cases q)
  | .ob d :: as, as', j, r, h => by
    simp only [endArs, Option.map_eq_some_iff] at h
    obtain ⟨as1, e2, rfl⟩ := h
    exact (endArs_get e2).cons (fun m q => by cases q) (fun G q => by cases q)
  | .adr _ _ :: as, as', j, r, h => by
    simp only [endArs, Option.map_eq_some_iff] at h
    obtain ⟨as1, e2, rfl⟩ := h
    exact (endArs_get e2).cons (fun m q => by cases q) (fun G q => by cases q)
section
variable {K : Fg} {F H F' H' : Hp} {as as' : List Ar} {vs : List V} {r : Rho} {s : L2.St}
theorem Ok.did (hs : Sub F H) (ha : ArsOk K F H as vs) (k : Ok K (enOf F H as vs) F' r s H') (q : endArs 0 as r = some as') : Did K F H as vs F' H' as' := by
  obtain ⟨hl, hb, hg⟩ := endArs_get q
  have bx : ∀ (i : Nat) m p, as[i]? = some (Ar.box m) → vs[i]? = some (V.ref p) → ∃ m' o, as'[i]? = some (.box m') ∧ H' p = some o ∧ MO K F' o m' ∧ F' p = none := fun i m p e1 e2 => by
    obtain ⟨m', g1, g2⟩ := hb i m e1
    rw [Nat.zero_add] at g2
    obtain ⟨p', o, w1, w2, w3, w4, w5, w6, w7⟩ := k.box i true m' g2
    have e := w7 rfl
    simp only [enOf, e1, e2] at e
    cases e
    exact ⟨m', o, g1, w2, w3, w4⟩
  refine ⟨k.f0, k.sub, fun a o z => ?_, fun a o z nb ng => ?_, fun a z => k.dom a z, hl, bx, fun i G e1 => ?_, fun p hp => (k.gpF p hp).1⟩
  · rcases k.new a o z with y | y | y
    · exact .inl y
    · simp only [enOf] at y
      split at y
      · rename_i ib
        rcases ib with ⟨i, m, e1, e2⟩ | ig
        · obtain ⟨_, _, _, _, _, w⟩ := bx i m a e1 e2
          rw [w] at z; cases z
        · exact .inr (.inr ((k.gpF a ig).1 o z))
      · exact .inr (.inl y)
    · exact .inr (.inr y)
  · refine k.prot a o ?_
    simp only [enOf]
    rw [if_neg (fun y => y.elim nb ng)]
    exact z
  · obtain ⟨G', g1, g2⟩ := hg i G e1
    rw [Nat.zero_add] at g2
    obtain ⟨w1, w2, w3⟩ := k.gh i G' g2
    refine ⟨G', g1, ⟨w1.nd, w1.at', fun p hp => ⟨(w1.fr p hp).1, (w1.fr p hp).2.2.2⟩⟩, fun p hp => ?_, fun j m p e3 e4 => ?_⟩
    · by_cases y : H p = none
      · exact .inr y
      · obtain ⟨i2, G2, e5, e6⟩ := (w1.fr p hp).2.2.1 y
        have := (ha.ghAt e5).1.trans (ha.ghAt e1).1.symm
        subst this
        rw [e5] at e1; cases e1
        exact .inl e6
    · obtain ⟨m', y1, y2⟩ := hb j m e3
      rw [Nat.zero_add] at y2
      obtain ⟨p', o, x1, x2, x3, x4, x5, x6, x7⟩ := k.box j true m' y2
      have e := x7 rfl
      simp only [enOf, e3, e4] at e
      cases e
      exact w2 j true m' p y2 x1
theorem RR.ret {x x' : R} {v : V} (h : RR K (enOf F H as vs) F' r s H' x v) (k : Ok K (enOf F H as vs) F' r s H') (q : retOf r x = some x') : ReOk K F' H H' x' v := by
  cases h with
  | val a => cases q; exact .val a
  | own h1 h2 h3 h4 h5 h6 =>
    cases q
    exact .own (Classical.byContradiction fun z => h5 z) h1 h2 h3
  | bor a b =>
    simp only [retOf] at q
    split at q
    · rename_i m z
      cases q
      obtain ⟨p, o, g1, g2, g3, g4, g5, g6, g7⟩ := k.box _ _ _ z
      rw [a] at g1; cases g1
      exact .own (Classical.byContradiction fun z => g6 rfl z) g2 g3 g4
    · cases q
  | ob a => cases q
  | adr => cases q; exact .adr
end
/-- what a body does, as a contract -/
def ctOf (n : Nat) (m : MS) : Ct := fun as P => rqB (Nat.ble as.length n) <| strict (startR n as) fun r => m r ⟨fun r => onO (endArs 0 as r) fun as' => P (.val .none) as', fun x r => onO (retOf r x) fun x' => onO (endArs 0 as r) fun as' => P x' as', fun _ => False, fun _ => False⟩
section
variable {P : Program} {w : World} {K : Fg} {mg : Str → Option Value} {base : Heap}
/-- THE RULE: a def by its body -/
theorem fnd_of {k : Nat} {f : Addr} {name qual : Str} {params : Arguments} {body : List Stmt} {scope : Scope} {dV kV doc pm cdv ct oc : Value} {an od : Option Addr} {osl : Array (Option Value)} {N ps : List Str} {m : MS}
    (lk : K.lookup f = some ⟨oc, od, .func (PySem.W.fnOf name qual params body scope dV kV doc pm an cdv ct), osl⟩) (hcd : PySem.W.codeIn K cdv qual = true) (S : FnScope N ps scope)
    (hbody : ∀ (A : Around) (outer : List Env) (s : Shared) (H : Hp) (E : XK), Room k (A.deeper (envOfC qual scope s.heap.objs.size f cdv)) → A.guards = some [] → DSs (cxOf CX0 P w K mg base N qual scope f cdv A outer s H E).nox body m) :
    FnD P w K mg base (k + 1) f (PySem.W.fnOf name qual params body scope dV kV doc pm an cdv ct) ps (ctOf N.length m) := by
  refine ⟨fun A outer s H args us vs Q E hr hgu e0 hb r ⟨F, as, hl, hs, ha, hap, Pp, hc, hP⟩ => ?_⟩
  have KX : K.In s.heap := e0.mod.kin.keeps fun b o e => (e0.bs b o e).1
  have lim : s.heap.NoLimit := e0.mod.nolimit.keeps fun b o e => (e0.bs b o e).1
  have hkind : ∀ y ∈ ps.zip us, scope.names.lookup y.1 = some .local ∨ (scope.names.lookup y.1 = some .cell ∧ ((cellsFrom (s.heap.objs.size + 1) scope.names []).lookup y.1).isSome = true) := by
    rintro ⟨n, v⟩ hy
    rcases S.par n (List.of_mem_zip hy).1 with q | q
    · exact .inl q
    · exact .inr ⟨q, PySem.W.cellsFrom_some _ _ _ (.inl q)⟩
  refine codeAny_call_function hr.depth (KX _ _ lk) rfl S.co S.gen rfl (PySem.W.codeRec_of KX hcd) (hb _ _ _ _ (wpAny_newFunctionEnv_cells S.kind hkind ?_))
  rintro env rfl s1 x
  refine ⟨lim.keeps x.toInCall.keep, codeAny_func ?_⟩
  have I : L2.Inv (cxOf CX0 P w K mg base N qual scope f cdv A outer s H E) [] (L2.start N vs) H s1 := inv_start S hr.hd e0 hl r x
  obtain ⟨hn, hc⟩ := rqB.ex hc
  have ok : Ok K (enOf F H as vs) F (startR N.length as) (L2.start N vs) H := Ok.start (Nat.le_of_ble_eq_true hn) hs ha hap
  have hit : TSt K (enOf F H as vs) m { nx := fun _ H' => Q .non H', rt := Q } (L2.start N vs) H := by
    refine ⟨F, _, ok, _, hc.ex, ⟨?_, ?_, fun _ _ _ _ z => z.elim, fun _ _ _ _ z => z.elim⟩⟩
    · intro r' s' F' H' hx k' q'
      obtain ⟨as', ea, hp⟩ := onO.ex hx
      exact hP _ as' _ F' H' hp (k'.did hs ha ea) (.val .non)
    · intro y r' v s' F' H' hx k' q' t
      obtain ⟨y', er, hx2⟩ := onO.ex hx
      obtain ⟨as', ea, hp⟩ := onO.ex hx2
      exact hP _ as' _ F' H' hp (k'.did hs ha ea) (t.ret k' er)
  have run := ((hbody A outer s H E (hr.deeper _) hgu (enOf F H as vs)).nox).run [] s1 (L2.start N vs) H _ I hit
  refine wpAny_mono run (fun fl s' z => ?_) fun _ _ z => z
  cases fl with
  | ret u =>
    obtain ⟨v, σ', H', J, rv, q⟩ := z
    exact ⟨v, H', J.os, J.bare, J.base, J.hok, rv, q⟩
  | next =>
    obtain ⟨σ', H', J, q⟩ := z
    exact ⟨.non, H', J.os, J.bare, J.base, J.hok, rfl, q⟩
  | brk => obtain ⟨_, _, _, q⟩ := z; exact q.elim
  | cont => obtain ⟨_, _, _, q⟩ := z; exact q.elim
end
end DL
namespace DL
open PySem L2 PyProof.Rows
def arOf (r : Rho) : R → Option Ar
  | .val d => some (.val d)
  | .own m => some (.val m.toD)
  | .bor i => match r[i]? with
    | some (some (.box _ m)) => some (.box m)
    | _ => none
  | .ob ns => some (.ob ns)
  | .adr n a => some (.adr n a)
def arsOf (r : Rho) : List R → Option (List Ar)
  | [] => some []
  | x :: xs => match arOf r x, arsOf r xs with
    | some a, some as => some (a :: as)
    | _, _ => none
/-- the slots whose boxes are handed in -/
def borSlots : List R → List Nat
  | [] => []
  | .bor i :: xs => i :: borSlots xs
  | _ :: xs => borSlots xs
/-- no box is handed in twice -/
def once : List Nat → Bool
  | [] => true
  | i :: is => !is.contains i && once is
/-- the boxes behind the call -/
def backArs : Rho → List R → List Ar → Option Rho
  | r, [], [] => some r
  | r, .bor i :: xs, .box m :: as => match r[i]? with
    | some (some (.box b _)) => backArs (r.set i (some (.box b m))) xs as
    | _ => none
  | r, .val _ :: xs, _ :: as => backArs r xs as
  | r, .own _ :: xs, _ :: as => backArs r xs as
  | r, .ob _ :: xs, _ :: as => backArs r xs as
  | r, .adr _ _ :: xs, _ :: as => backArs r xs as
  | _, _, _ => none
/-- a call: here a proof speaks -/
structure Cl (c : Ct) (as : List Ar) (K : R → List Ar → Prop) : Prop where
  h : c as K
def mFn (c : Ct) (ms : MA) : ME := fun r P => ms r fun xs r1 => rqB (once (borSlots xs)) (onO (arsOf r1 xs) fun as => Cl c as fun x as' => onS (backArs r1 xs as') fun r2 => P x r2)
theorem borSlots_mem : ∀ {xs : List R} {j i : Nat}, xs[j]? = some (.bor i) → i ∈ borSlots xs
  | [], _, _, h => by simp at h
  | .bor i' :: xs, 0, i, h => by simp at h; subst h; exact List.mem_cons_self
  | .bor i' :: xs, j + 1, i, h => List.mem_cons_of_mem _ (borSlots_mem (by simpa using h))
  | .val _ :: xs, 0, i, h => by simp at h
  | .own _ :: xs, 0, i, h => by simp at h
  | .ob _ :: xs, 0, i, h => by simp at h
  | .adr _ _ :: xs, 0, i, h => by simp at h
  | .val _ :: xs, j + 1, i, h => borSlots_mem (xs := xs) (by simpa using h)
  | .own _ :: xs, j + 1, i, h => borSlots_mem (xs := xs) (by simpa using h)
  | .ob _ :: xs, j + 1, i, h => borSlots_mem (xs := xs) (by simpa using h)
  | .adr _ _ :: xs, j + 1, i, h => borSlots_mem (xs := xs) (by simpa using h)
theorem once_apart : ∀ {xs : List R}, once (borSlots xs) = true → ∀ {j j' i : Nat}, xs[j]? = some (.bor i) → xs[j']? = some (.bor i) → j = j'
  | [], _, _, _, _, h, _ => by simp at h
  | .bor i' :: xs, hn, j, j', i, h, h' => by
    simp only [borSlots, once, Bool.and_eq_true, Bool.not_eq_true', List.contains_eq_mem, decide_eq_false_iff_not] at hn
    cases j with
    | zero =>
      cases j' with
      | zero => rfl
      | succ j' =>
        simp at h; subst h
        exact absurd (borSlots_mem (by simpa using h')) hn.1
    | succ j =>
      cases j' with
      | zero =>
        simp at h'; subst h'
        exact absurd (borSlots_mem (by simpa using h)) hn.1
      | succ j' => exact congrArg (· + 1) (once_apart (i := i) hn.2 (by simpa using h) (by simpa using h'))
  | .val _ :: xs, hn, j, j', i, h, h' => by
    cases j with
    | zero => simp at h
    | succ j => cases j' with
      | zero => simp at h'
      | succ j' => exact congrArg (· + 1) (once_apart (xs := xs) (i := i) hn (by simpa using h) (by simpa using h'))
  | .own _ :: xs, hn, j, j', i, h, h' => by
    cases j with
    | zero => simp at h
    | succ j => cases j' with
      | zero => simp at h'
      | succ j' => exact congrArg (· + 1) (once_apart (xs := xs) (i := i) hn (by simpa using h) (by simpa using h'))
  | .ob _ :: xs, hn, j, j', i, h, h' => by
    cases j with
    | zero => simp at h
    | succ j => cases j' with
      | zero => simp at h'
      | succ j' => exact congrArg (· + 1) (once_apart (xs := xs) (i := i) hn (by simpa using h) (by simpa using h'))
  | .adr _ _ :: xs, hn, j, j', i, h, h' => by
    cases j with
    | zero => simp at h
    | succ j => cases j' with
      | zero => simp at h'
      | succ j' => exact congrArg (· + 1) (once_apart (xs := xs) (i := i) hn (by simpa using h) (by simpa using h'))
section
variable {K : Fg} {e : En} {F H : Hp} {r : Rho} {s : L2.St}
theorem RTs.get {xs : List R} {vs : List V} (t : RTs K F s xs vs) : ∀ {j : Nat} {x : R}, xs[j]? = some x → ∃ v, vs[j]? = some v ∧ RT K F s x v := by
  induction t with
  | nil => intro j x h; simp at h
  | cons a _ ih =>
    intro j x h
    cases j with
    | zero => simp at h; subst h; exact ⟨_, rfl, a⟩
    | succ j => obtain ⟨v, g1, g2⟩ := ih (by simpa using h); exact ⟨v, by simpa using g1, g2⟩
theorem RTs.ars {xs : List R} {vs : List V} {as : List Ar} (t : RTs K F s xs vs) (k : Ok K e F r s H) (q : arsOf r xs = some as) : ArsOk K F H as vs ∧ ∀ (j : Nat) m, as[j]? = some (Ar.box m) → ∃ i b, xs[j]? = some (.bor i) ∧ r[i]? = some (some (.box b m)) := by
  induction t generalizing as with
  | nil => cases q; exact ⟨.nil, fun j m z => by simp at z⟩
  | @cons x v xs vs a _ ih =>
    simp only [arsOf] at q
    split at q
    · rename_i a' as' e1 e2
      cases q
      obtain ⟨h1, h2⟩ := ih e2
      cases a with
      | val rp =>
        cases e1
        exact ⟨.cons (.val rp) h1, fun j m z => by
          cases j with
          | zero => simp at z
          | succ j => obtain ⟨i, b, g1, g2⟩ := h2 j m (by simpa using z); exact ⟨i, b, by simpa using g1, g2⟩⟩
      | ob rp =>
        cases e1
        exact ⟨.cons (.ob rp) h1, fun j m z => by
          cases j with
          | zero => simp at z
          | succ j => obtain ⟨i, b, g1, g2⟩ := h2 j m (by simpa using z); exact ⟨i, b, by simpa using g1, g2⟩⟩
      | adr =>
        cases e1
        exact ⟨.cons .adr h1, fun j m z => by
          cases j with
          | zero => simp at z
          | succ j => obtain ⟨i, b, g1, g2⟩ := h2 j m (by simpa using z); exact ⟨i, b, by simpa using g1, g2⟩⟩
      | @bor i _ g =>
        simp only [arOf] at e1
        split at e1
        · rename_i b m z
          cases e1
          obtain ⟨p, o, w1, w2, w3, w4, _⟩ := k.box _ _ _ z
          rw [g] at w1; cases w1
          exact ⟨.cons (.box w2 w3 w4) h1, fun j m' z' => by
            cases j with
            | zero => simp at z'; subst z'; exact ⟨i, b, rfl, z⟩
            | succ j => obtain ⟨i', b', g1, g2⟩ := h2 j m' (by simpa using z'); exact ⟨i', b', by simpa using g1, g2⟩⟩
        · cases e1
    · cases q
/-- the cells behind a call -/
theorem backArs_get : ∀ {xs : List R} {as' : List Ar} {r r2 : Rho}, once (borSlots xs) = true → backArs r xs as' = some r2 → r2.length = r.length ∧ (∀ i, i ∉ borSlots xs → r2[i]? = r[i]?) ∧
    (∀ (j i : Nat), xs[j]? = some (.bor i) → ∃ b m m', r[i]? = some (some (.box b m)) ∧ as'[j]? = some (.box m') ∧ r2[i]? = some (some (.box b m')))
  | [], as', r, r2, _, h => by
    cases as' with
    | nil => cases h; exact ⟨rfl, fun _ _ => rfl, fun j i z => by simp at z⟩
    | cons => cases h
  | .bor i :: xs, as', r, r2, hn, h => by
    cases as' with
    | nil => cases h
    | cons a as' =>
      cases a with
      | val => cases h
      | ob => cases h
      | adr => cases h
      | gh => cases h
      | box m' =>
        simp only [backArs] at h
        split at h
        · rename_i b m z
          simp only [borSlots, once, Bool.and_eq_true, Bool.not_eq_true', List.contains_eq_mem, decide_eq_false_iff_not] at hn
          obtain ⟨l, g1, g2⟩ := backArs_get hn.2 h
          have hi : i < r.length := (List.getElem?_eq_some_iff.mp z).1
          refine ⟨by rw [l, List.length_set], fun i' hi' => ?_, fun j i' e => ?_⟩
          · simp only [borSlots, List.mem_cons, not_or] at hi'
            rw [g1 i' hi'.2, List.getElem?_set_ne (Ne.symm hi'.1)]
          · cases j with
            | zero =>
              simp at e; subst e
              exact ⟨b, m, m', z, rfl, by rw [g1 i hn.1, List.getElem?_set_self hi]⟩
            | succ j =>
              obtain ⟨b1, m1, m1', w1, w2, w3⟩ := g2 j i' (by simpa using e)
              have ne : i ≠ i' := fun q => by subst q; exact hn.1 (borSlots_mem (by simpa using e))
              rw [List.getElem?_set_ne ne] at w1
              exact ⟨b1, m1, m1', w1, by simpa using w2, w3⟩
        · cases h
  | .val _ :: xs, as', r, r2, hn, h => by
    cases as' with
    | nil => cases h
    | cons a as' =>
      obtain ⟨l, g1, g2⟩ := backArs_get (xs := xs) hn (by simpa only [backArs] using h)
      exact ⟨l, g1, fun j i' e => by
        cases j with
        | zero => simp at e
        | succ j => obtain ⟨b1, m1, m1', w1, w2, w3⟩ := g2 j i' (by simpa using e); exact ⟨b1, m1, m1', w1, by simpa using w2, w3⟩⟩
  | .own _ :: xs, as', r, r2, hn, h => by
    cases as' with
    | nil => cases h
    | cons a as' =>
      obtain ⟨l, g1, g2⟩ := backArs_get (xs := xs) hn (by simpa only [backArs] using h)
      exact ⟨l, g1, fun j i' e => by
        cases j with
        | zero => simp at e
        | succ j => obtain ⟨b1, m1, m1', w1, w2, w3⟩ := g2 j i' (by simpa using e); exact ⟨b1, m1, m1', w1, by simpa using w2, w3⟩⟩
  | .ob _ :: xs, as', r, r2, hn, h => by
    cases as' with
    | nil => cases h
    | cons a as' =>
      obtain ⟨l, g1, g2⟩ := backArs_get (xs := xs) hn (by simpa only [backArs] using h)
      exact ⟨l, g1, fun j i' e => by
        cases j with
        | zero => simp at e
        | succ j => obtain ⟨b1, m1, m1', w1, w2, w3⟩ := g2 j i' (by simpa using e); exact ⟨b1, m1, m1', w1, by simpa using w2, w3⟩⟩
  | .adr _ _ :: xs, as', r, r2, hn, h => by
    cases as' with
    | nil => cases h
    | cons a as' =>
      obtain ⟨l, g1, g2⟩ := backArs_get (xs := xs) hn (by simpa only [backArs] using h)
      exact ⟨l, g1, fun j i' e => by
        cases j with
        | zero => simp at e
        | succ j => obtain ⟨b1, m1, m1', w1, w2, w3⟩ := g2 j i' (by simpa using e); exact ⟨b1, m1, m1', w1, by simpa using w2, w3⟩⟩
theorem borSlots_ix : ∀ {xs : List R} {i : Nat}, i ∈ borSlots xs → ∃ j : Nat, xs[j]? = some (R.bor i)
  | [], _, h => by simp [borSlots] at h
  | .bor i' :: xs, i, h => by
    rcases List.mem_cons.mp h with rfl | h
    · exact ⟨0, rfl⟩
    · obtain ⟨j, q⟩ := borSlots_ix h; exact ⟨j + 1, by simpa using q⟩
  | .val _ :: xs, i, h => by obtain ⟨j, q⟩ := borSlots_ix (xs := xs) h; exact ⟨j + 1, by simpa using q⟩
  | .own _ :: xs, i, h => by obtain ⟨j, q⟩ := borSlots_ix (xs := xs) h; exact ⟨j + 1, by simpa using q⟩
  | .ob _ :: xs, i, h => by obtain ⟨j, q⟩ := borSlots_ix (xs := xs) h; exact ⟨j + 1, by simpa using q⟩
  | .adr _ _ :: xs, i, h => by obtain ⟨j, q⟩ := borSlots_ix (xs := xs) h; exact ⟨j + 1, by simpa using q⟩
theorem arsOf_nogh {r : Rho} : ∀ {xs : List R} {as : List Ar}, arsOf r xs = some as → ∀ (j : Nat) G, as[j]? ≠ some (.gh G)
  | [], as, h => by cases h; intro j G z; simp at z
  | x :: xs, as, h => by
    simp only [arsOf] at h
    split at h
    · rename_i a1 as1 f1 f2
      cases h
      intro j G z
      cases j with
      | zero =>
        simp at z; subst z
        cases x with
        | bor i =>
          simp only [arOf] at f1
          split at f1 <;> cases f1
        | _ => cases f1
      | succ j => exact arsOf_nogh f2 j G (by simpa using z)
    · cases h
theorem call_okG {xs : List R} {vs : List V} {as as0 as' as1 : List Ar} {F' H' : Hp} {r2 : Rho} (t : RTs K F s xs vs) (k : Ok K e F r s H) (ho : once (borSlots xs) = true) (q : arsOf r xs = some as0) (d : Did K F H as vs F' H' as') (qb : backArs r xs as1 = some r2)
    (x0 : ∀ (j : Nat) m, as[j]? = some (Ar.box m) ↔ as0[j]? = some (Ar.box m)) (x1 : ∀ (j : Nat) m, as1[j]? = some (Ar.box m) → as'[j]? = some (Ar.box m)) (hg : ∀ p, IsGh as p → e.P p = none ∧ NB r s p) (hgp : ∀ p, e.gp p → ∀ o, F' p = some o → ∃ xs, o = .tup xs) :
    Ok K e F' r2 s H' := by
  obtain ⟨ha, hb⟩ := t.ars k q
  obtain ⟨hl, g1, g2⟩ := backArs_get ho qb
  -- a box of r2 is a box of r
  have bx : ∀ (i : Nat) b m, r2[i]? = some (some (Ce.box b m)) → ∃ m0, r[i]? = some (some (Ce.box b m0)) := fun i b m z => by
    by_cases hi : i ∈ borSlots xs
    · obtain ⟨j, ej⟩ := borSlots_ix hi
      obtain ⟨b1, m1, m1', w1, w2, w3⟩ := g2 j i ej
      rw [w3] at z
      cases z
      exact ⟨m1, w1⟩
    · rw [g1 i hi] at z; exact ⟨m, z⟩
  have ot : ∀ (i : Nat) c, r2[i]? = some (some c) → (∀ b m, c ≠ Ce.box b m) → r[i]? = some (some c) := fun i c z nc => by
    by_cases hi : i ∈ borSlots xs
    · obtain ⟨j, ej⟩ := borSlots_ix hi
      obtain ⟨b1, m1, m1', w1, w2, w3⟩ := g2 j i ej
      rw [w3] at z
      cases z
      exact absurd rfl (nc _ _)
    · rw [g1 i hi] at z; exact z
  have nf : ∀ p o, H p = some o → F p = none → H' p = some o → (∀ xs, o ≠ .tup xs) → F' p = none := fun p o h1 h2 h3 h4 => by
    cases w : F' p with
    | none => rfl
    | some u =>
      rcases d.new p u w with y | y | ⟨xs, y⟩
      · rw [h2] at y; cases y
      · rw [h1] at y; cases y
      · have h5 := d.subH p u w
        rw [h3, y] at h5
        exact absurd (Option.some.inj h5) (h4 xs)
  -- the address of a handed box
  have ib : ∀ p, IsBox as vs p → ∃ (j i : Nat) (m : MB) (b : Bool), as[j]? = some (.box m) ∧ vs[j]? = some (.ref p) ∧ xs[j]? = some (.bor i) ∧ r[i]? = some (some (.box b m)) ∧ s[i]? = some (some (.ref p)) := fun p ⟨j, m, e1, e2⟩ => by
    obtain ⟨i, b, e3, e4⟩ := hb j m ((x0 j m).mp e1)
    obtain ⟨v, w1, w2⟩ := t.get e3
    rw [e2] at w1; cases w1
    cases w2 with | bor w2 => exact ⟨j, i, m, b, e1, e2, e3, e4, w2⟩
  refine ⟨hl.trans k.len, d.subH, k.f0.trans d.sub, fun a o z => ?_, fun a o z => ?_, fun a z => d.dom a (k.dom a z), fun i v z => ?_, fun i b m z => ?_, fun i ns z => ?_, fun i j p b m b' m' z1 z2 w1 w2 => ?_, fun i n a z => ?_, fun i G z => ?_, fun p hp => ⟨hgp p hp, (k.gpF p hp).2⟩⟩
  · refine d.keep a o (k.prot a o z) (fun y => ?_) fun y => ?_
    · obtain ⟨_, i, m, b, _, _, _, e4, e5⟩ := ib a y
      obtain ⟨p, _, w1, _, _, _, w5, _⟩ := k.box i b m e4
      rw [e5] at w1; cases w1
      rw [z] at w5; cases w5
    · rw [(hg a y).1] at z; cases z
  · rcases d.new a o z with y | y | y
    · exact k.new a o y
    · refine .inr (.inl ?_)
      cases w : e.P a with
      | none => rfl
      | some u => rw [k.prot a u w] at y; cases y
    · exact .inr (.inr y)
  · obtain ⟨u, y1, y2⟩ := k.slot i v (ot i _ z (by intro _ _ q; cases q))
    exact ⟨u, y1, y2.mono d.sub⟩
  · by_cases hi : i ∈ borSlots xs
    · obtain ⟨j, ej⟩ := borSlots_ix hi
      obtain ⟨b1, m1, m1', w1, w2, w3⟩ := g2 j i ej
      rw [w3] at z
      cases z
      obtain ⟨p, o, y1, y2, y3, y4, y5, y6⟩ := k.box i b m1 w1
      obtain ⟨v, u1, u2⟩ := t.get ej
      cases u2 with | bor u2 =>
      rw [y1] at u2; cases u2
      have ej' : ∃ m2, as0[j]? = some (.box m2) := by
        have : ∀ {xs : List R} {as : List Ar} {j : Nat}, arsOf r xs = some as → xs[j]? = some (.bor i) → ∃ m2, as[j]? = some (.box m2) := by
          intro xs
          induction xs with
          | nil => intro as j _ h; simp at h
          | cons x xs ih =>
            intro as j h1 h2
            simp only [arsOf] at h1
            split at h1
            · rename_i a1 as1 f1 f2
              cases h1
              cases j with
              | zero =>
                simp at h2; subst h2
                simp only [arOf] at f1
                split at f1
                · cases f1; exact ⟨_, rfl⟩
                · cases f1
              | succ j => obtain ⟨m2, f3⟩ := ih f2 (by simpa using h2); exact ⟨m2, by simpa using f3⟩
            · cases h1
        exact this q ej
      obtain ⟨m2, ej'⟩ := ej'
      obtain ⟨m3, o3, f1, f2, f3, f4⟩ := d.box j m2 p ((x0 j m2).mpr ej') u1
      rw [x1 j _ w2] at f1; cases f1
      exact ⟨p, o3, y1, f2, f3, f4, y5, y6⟩
    · rw [g1 i hi] at z
      obtain ⟨p, o, y1, y2, y3, y4, y5, y6⟩ := k.box i b m z
      have hk : H' p = some o := d.keep p o y2 (fun y => by
        obtain ⟨j, i', m', b', _, _, e3, e4, e5⟩ := ib p y
        have := k.sep i i' p b m b' m' z e4 y1 e5
        subst this
        exact hi (borSlots_mem e3)) (fun y => (hg p y).2.1 i b m z y1)
      exact ⟨p, o, y1, hk, y3.mono d.sub, nf p o y2 y4 hk y3.ntup, y5, y6⟩
  · obtain ⟨u, y1, y2⟩ := k.ob i ns (ot i _ z (by intro _ _ q; cases q))
    exact ⟨u, y1, y2.mono d.sub⟩
  · obtain ⟨_, y1⟩ := bx i b m z1
    obtain ⟨_, y2⟩ := bx j b' m' z2
    exact k.sep i j p _ _ _ _ y1 y2 w1 w2
  · exact k.adr i n a (ot i _ z (by intro _ _ q; cases q))
  · have z' := ot i _ z (by intro _ _ q; cases q)
    obtain ⟨y1, y2, y3⟩ := k.gh i G z'
    have kg : ∀ p ∈ fp G, ∀ o, H p = some o → H' p = some o := fun p w o x => d.keep p o x (fun y => by
      obtain ⟨_, i', m, b, _, _, _, e4, e5⟩ := ib p y
      exact y2 i' b m p e4 e5 w) fun y => (hg p y).2.2 i G z' w
    refine ⟨y1.move d.sub kg (fun p w => ?_) fun p w => ⟨(y1.fr p w).2.1, (y1.fr p w).2.2.1⟩, fun j b m p z2 w => ?_, fun j G' z2 => ?_⟩
    · obtain ⟨u1, _, _, u4⟩ := y1.fr p w
      cases u : H p with
      | none => exact absurd u u4
      | some o => exact nf p o u u1 (kg p w o u) fun xs q => y1.ntup w xs (by rw [u, q])
    · obtain ⟨_, z3⟩ := bx j b m z2
      exact y2 j b _ p z3 w
    · exact y3 j G' (ot j _ z2 (by intro _ _ q; cases q))
theorem call_ok {xs : List R} {vs : List V} {as as' : List Ar} {F' H' : Hp} {r2 : Rho} (t : RTs K F s xs vs) (k : Ok K e F r s H) (ho : once (borSlots xs) = true) (q : arsOf r xs = some as) (d : Did K F H as vs F' H' as') (qb : backArs r xs as' = some r2) :
    Ok K e F' r2 s H' := by
  have ng := arsOf_nogh q
  refine call_okG t k ho q d qb (fun _ _ => Iff.rfl) (fun _ _ h => h) (fun p ⟨i, G, e1, _⟩ => absurd e1 (ng i G)) fun p hp => ?_
  intro u w
  rcases d.new p u w with y | y | y
  · exact (k.gpF p hp).1 u y
  · exact absurd y (k.dom p (k.gpF p hp).2)
  · exact y
theorem call_rr {xs : List R} {vs : List V} {as as' : List Ar} {F' H' : Hp} {r2 : Rho} {x : R} {v : V} (k : Ok K e F r s H) (ho : once (borSlots xs) = true) (qb : backArs r xs as' = some r2) (h : ReOk K F' H H' x v) : RR K e F' r2 s H' x v := by
  obtain ⟨hl, g1, g2⟩ := backArs_get ho qb
  cases h with
  | val a => exact .val a
  | adr => exact .adr
  | @own p o m h1 h2 h3 h4 =>
    have fr := k.free h1
    have nbx := k.nobox h1
    refine .own h2 h3 h4 fr.2.1 fr.2.2 ⟨fun i b m' z y => ?_, fun i G z => ?_⟩
    rotate_left
    · refine nbx.2 i G ?_
      by_cases hi : i ∈ borSlots xs
      · obtain ⟨j, ej⟩ := borSlots_ix hi
        obtain ⟨b1, m1, m1', w1, w2, w3⟩ := g2 j i ej
        rw [w3] at z
        cases z
      · rw [g1 i hi] at z; exact z
    have : ∃ m0, r[i]? = some (some (Ce.box b m0)) := by
      by_cases hi : i ∈ borSlots xs
      · obtain ⟨j, ej⟩ := borSlots_ix hi
        obtain ⟨b1, m1, m1', w1, w2, w3⟩ := g2 j i ej
        rw [w3] at z
        cases z
        exact ⟨m1, w1⟩
      · rw [g1 i hi] at z; exact ⟨m', z⟩
    obtain ⟨m0, w⟩ := this
    exact nbx.1 i b m0 w y
end
end DL
namespace DL
open PySem L2 PyProof.Rows
def TAk (X : Cx) (kws : List Keyword) (m : MA) : Prop := ∀ e, PK X kws (TAl X.K e m)
theorem PK.imp {X : Cx} {a : List Keyword} {t u : TA} (h : PK X a t) (i : ∀ s H Q, u s H Q → t s H Q) : PK X a u := ⟨fun pos pins s σ H Q I q => h.run pos pins s σ H Q I (i _ _ _ q)⟩
section
variable {X : Cx} {a : Expr} {es : List Expr} {ma : ME} {ms mk : MA} {kws : List Keyword} {nm : Option Str} {kpos : Pos}
theorem dk_nil : TAk X [] aNil := fun e => PK.imp pk_nil fun s H Q ⟨F, r, k, P, hm, hP⟩ => hP _ r _ F H hm k (Sub.refl F) .nil
theorem dk_cons (ha : DE X a ma) (hr : TAk X kws ms) : TAk X (⟨nm, a, kpos⟩ :: kws) (aCons ma ms) := fun e =>
  PK.imp (pk_cons (ha.tmp e) (hr e)) fun s H Q ⟨F, r, k, P, hm, hP⟩ => ⟨F, r, k, fun x r1 => ms r1 fun xs r2 => P (x :: xs) r2, hm, fun x r1 v F1 H1 hx k1 q1 t1 =>
    ⟨F1, r1, k1, _, hx, fun xs r2 vs F2 H2 hxs k2 q2 t2 => hP _ r2 _ F2 H2 hxs k2 (q1.trans q2) (.cons (t1.mono q2) t2)⟩⟩
end
/-- how a call binds: n values by places, those named ks by names; G puts them, and the defaults, in the parameters' order -/
structure Bd (K : Fg) (fd : FuncData) (ps : List Str) (n : Nat) (ks : List Str) (G : List R → List R → List R) : Prop where
  ex : ∃ (g : List Value → List Value → List Value) (gV : List V → List V → List V), KBn K fd ps n ks g gV ∧ (∀ vs zs, vs.length = n → zs.length = ks.length → (gV vs zs).length = ps.length) ∧
    ∀ (F : Hp) (s : L2.St) xs vs zs ws, RTs K F s xs vs → RTs K F s zs ws → vs.length = n → ws.length = ks.length → RTs K F s (G xs zs) (gV vs ws)
theorem RTs.length {K : Fg} {F : Hp} {s : L2.St} {xs : List R} {vs : List V} (t : RTs K F s xs vs) : xs.length = vs.length := by
  induction t with
  | nil => rfl
  | cons _ _ ih => rw [List.length_cons, List.length_cons, ih]
theorem RTs.append {K : Fg} {F : Hp} {s : L2.St} {xs ys : List R} {vs us : List V} (t : RTs K F s xs vs) (u : RTs K F s ys us) : RTs K F s (xs ++ ys) (vs ++ us) := by
  induction t with
  | nil => exact u
  | cons a _ ih => exact .cons a ih
/-- data that stand by themselves -/
inductive Flat : V → D → Prop
  | non : Flat .non .none
  | bl (b : Bool) : Flat (.bl b) (.bool b)
  | int (i : Int) : Flat (.int i) (.int i)
  | str (x : Str) : Flat (.str x) (.str x)
theorem Flat.rp {K : Fg} {F : Hp} {v : V} {d : D} (h : Flat v d) : Rp K F v d := by
  cases h with
  | non => exact .non
  | bl b => exact .bl b
  | int i => exact .int i
  | str x => exact .str x
inductive Flats : List V → List D → Prop
  | nil : Flats [] []
  | cons {v : V} {d : D} {vs : List V} {ds : List D} : Flat v d → Flats vs ds → Flats (v :: vs) (d :: ds)
theorem Flats.rts {K : Fg} {F : Hp} {s : L2.St} {vs : List V} {ds : List D} (h : Flats vs ds) : RTs K F s (ds.map R.val) vs := by
  induction h with
  | nil => exact .nil
  | cons a _ ih => exact .cons (.val a.rp) ih
/-- by places, the rest by defaults -/
theorem Bd.of {K : Fg} {fd : FuncData} {ps : List Str} {n : Nat} {dvs : List V} {dds : List D} {ds : List Value} (hb : Binds K fd ps ds) (hd : Vals dvs ds) (hf : Flats dvs dds) (hn : n + dvs.length = ps.length) : Bd K fd ps n [] (fun xs _ => xs ++ dds.map R.val) := by
  refine ⟨fun us _ => us ++ ds, fun vs _ => vs ++ dvs, ⟨fun s us ws KX h1 h2 => ?_, fun r _ => r.append hd⟩, fun vs zs h1 h2 => ?_, fun F s xs vs zs ws t _ _ _ => t.append hf.rts⟩
  · have hl : (us ++ ds).length = ps.length := by rw [List.length_append, h1, ← hd.length]; exact hn
    exact hb s us KX hl
  · rw [List.length_append, h1, hn]
def mFnK (c : Ct) (G : List R → List R → List R) (n m : Nat) (ms mk : MA) : ME := mFn c fun r P => ms r fun xs r1 => mk r1 fun zs r2 => rqB (decide (xs.length = n) && decide (zs.length = m)) (P (G xs zs) r2)
section
variable {X : Cx} {a : Expr} {es : List Expr} {ma : ME} {ms mk : MA} {kws : List Keyword} {k n : Nat} {f : Addr} {fd : FuncData} {ps ks : List Str} {c : Ct} {x : Str} {p pos : Pos} {G : List R → List R → List R}
theorem run_fnd {pins : List (Addr × Obj)} {σ : L2.St} {H : Hp} {s : Shared} {Q : VK} {us ws : List Value} {vs zs : List V} {g : List Value → List Value → List Value} {gV : List V → List V → List V} (F : FnD X.prog X.w X.K X.mg X.base k f fd ps c) (hr : Room k X.A) (hgu : X.A.guards = some []) (hb : KBn X.K fd ps n ks g gV)
    (I : L2.Inv X pins σ H s) (r : Vals vs us) (rz : Vals zs ws) (l1 : vs.length = n) (l2 : zs.length = ks.length) (h : spD X.K ps.length c (gV vs zs) H Q E0) : wpAny (model X.prog X.w) X.A (call (.ref f) us (ks.zip ws)) (EP X pins σ Q) X.xe s := by
  refine wpAny_call (codeAny_mono (F.run X.A X.stack s H ⟨us, ks.zip ws⟩ (g us ws) (gV vs zs) Q E0 hr hgu I.env0 (hb.to s us ws I.kIn (r.length.symm.trans l1) (rz.length.symm.trans l2)) (hb.rel r rz) h) fun y s' hq => ?_)
  cases y with
  | error e => exact False.elim hq
  | ok fl =>
    cases fl with
    | ret u => exact I.after hq
    | next => exact False.elim hq
    | brk => exact False.elim hq
    | cont => exact False.elim hq
theorem fn_read {e : En} {gV : List V → List V → List V} (hl : ∀ vs zs, vs.length = n → zs.length = ks.length → (gV vs zs).length = ps.length) (hG : ∀ (F : Hp) (s : L2.St) xs vs zs ws, RTs X.K F s xs vs → RTs X.K F s zs ws → vs.length = n → ws.length = ks.length → RTs X.K F s (G xs zs) (gV vs ws))
    {s : L2.St} {H : Hp} {Q : VK} (h : T X.K e (mFnK c G n ks.length ms mk) s H Q) : (TAl X.K e ms) s H fun vs H1 => (TAl X.K e mk) s H1 fun zs H2 => vs.length = n ∧ zs.length = ks.length ∧ spD X.K ps.length c (gV vs zs) H2 Q E0 := by
  obtain ⟨F, r, k, P, hm, hP⟩ := h
  refine ⟨F, r, k, _, hm, fun xs r1 vs F1 H1 hx k1 q1 t1 => ⟨F1, r1, k1, _, hx, fun zs r2 ws F2 H2 hz k2 q2 t2 => ?_⟩⟩
  obtain ⟨nn, hz2⟩ := rqB.ex hz
  rw [Bool.and_eq_true, decide_eq_true_eq, decide_eq_true_eq] at nn
  obtain ⟨n1, n2⟩ := nn
  obtain ⟨ho, hz3⟩ := rqB.ex hz2
  obtain ⟨as, ea, hz4⟩ := onO.ex hz3
  have hc := hz4.h
  have l1 : vs.length = n := t1.length.symm.trans n1
  have l2 : ws.length = ks.length := t2.length.symm.trans n2
  have t := hG F2 s xs vs zs ws (t1.mono q2) t2 l1 l2
  obtain ⟨ha, hb⟩ := t.ars k2 ea
  refine ⟨l1, l2, F2, as, hl _ _ l1 l2, k2.sub, ha, ?_, _, hc, fun x as' v F' H' hx d re => by
    obtain ⟨r3, eb, hp⟩ := onS.ex hx
    exact hP x r3 v F' H' hp (call_ok t k2 ho ea d eb) ((q1.trans q2).trans d.sub) (call_rr (as := as) (vs := gV vs ws) k2 ho eb re)⟩
  refine ⟨fun i p m _ _ ⟨i2, G, e5, _⟩ => arsOf_nogh ea i2 G e5, ?_⟩
  intro i j p m m' e1 e2 e3 e4
  obtain ⟨i1, b1, g1, g2⟩ := hb i m e1
  obtain ⟨i2, b2, g3, g4⟩ := hb j m' e2
  obtain ⟨v1, u1, u2⟩ := t.get g1
  obtain ⟨v2, u3, u4⟩ := t.get g3
  rw [e3] at u1; cases u1
  rw [e4] at u3; cases u3
  cases u2 with | bor u2 =>
  cases u4 with | bor u4 =>
  have := k2.sep i1 i2 p _ _ _ _ g2 g4 u2 u4
  subst this
  exact once_apart ho g1 g3
theorem de_fn (F : FnD X.prog X.w X.K X.mg X.base k f fd ps c) (hr : Room k X.A) (hgu : X.A.guards = some []) (hg : Gl X x) (hm : X.mg x = some (.ref f)) (hk : PySem.W.keepIn X.K (.ref f) = true) (hb : Bd X.K fd ps n [] G)
    (ha : DA X (a :: es) ms) (hdb : (x == ("__debug__" : Str)) = false := by decide) (he : starEach (a :: es) X.env = (false, eval a X.env) :: starEach es X.env := by rfl) (hpl : (backTo pos (starEach es X.env)).any (·.1) = false := by rfl) :
    DE X (.Call (.Name x p) (a :: es) [] pos) (mFnK c G n 0 ms aNil) := fun e => by
  obtain ⟨g, gV, hB, hl, hG⟩ := hb.ex
  refine ⟨fun pins s σ H Q I h => wpAny_Call_Name_kw (ld_glob I hg hm (PySem.W.callWith_K (h₀ := X.base) I.ok.mod.kin hk (thn ((ha e).run pos pins s σ H _ I (fn_read (ks := []) hl hG h)) ?_) he hpl) hdb)⟩
  rintro us s1 ⟨vs, H1, I1, r, q⟩
  obtain ⟨F1, r1, k1, P1, hm1, h1⟩ := q
  obtain ⟨l1, l2, q2⟩ := h1 _ r1 [] F1 H1 hm1 k1 (Sub.refl _) .nil
  exact ⟨I1.kIn, run_fnd F hr hgu hB I1 r .nil l1 rfl q2⟩
theorem de_fn0 (F : FnD X.prog X.w X.K X.mg X.base k f fd ps c) (hr : Room k X.A) (hgu : X.A.guards = some []) (hg : Gl X x) (hm : X.mg x = some (.ref f)) (hk : PySem.W.keepIn X.K (.ref f) = true) (hb : Bd X.K fd ps 0 [] G) (hdb : (x == ("__debug__" : Str)) = false := by decide) :
    DE X (.Call (.Name x p) [] [] pos) (mFnK c G 0 0 aNil aNil) := fun e => by
  obtain ⟨g, gV, hB, hl, hG⟩ := hb.ex
  refine ⟨fun pins s σ H Q I h => wpAny_Call_Name_kw (ld_glob I hg hm (PySem.W.callWith_K0 I.kIn hk ?_) hdb)⟩
  obtain ⟨F0, r0, k0, P0, hm0, h0⟩ := fn_read (ks := []) hl hG h
  obtain ⟨F1, r1, k1, P1, hm1, h1⟩ := h0 _ r0 [] F0 H hm0 k0 (Sub.refl _) .nil
  obtain ⟨l1, l2, q2⟩ := h1 _ r1 [] F1 H hm1 k1 (Sub.refl _) .nil
  exact run_fnd (us := []) (ws := []) F hr hgu hB I .nil .nil l1 rfl q2
theorem de_fnK0 (F : FnD X.prog X.w X.K X.mg X.base k f fd ps c) (hr : Room k X.A) (hgu : X.A.guards = some []) (hg : Gl X x) (hm : X.mg x = some (.ref f)) (hk : PySem.W.keepIn X.K (.ref f) = true) (hb : Bd X.K fd ps 0 ks G)
    (hkw : TAk X kws mk) (hall : (backToKw pos (keywordEach kws X.env)).all (·.1.isSome) = true := by rfl) (hks : (backToKw pos (keywordEach kws X.env)).filterMap (·.1) = ks := by rfl)
    (hdb : (x == ("__debug__" : Str)) = false := by decide)
    (hpl : ((backTo pos (starEach [] X.env)).any (·.1) || (backToKw pos (keywordEach kws X.env)).any (·.1.isNone)) = false := by rfl) : DE X (.Call (.Name x p) [] kws pos) (mFnK c G 0 ks.length aNil mk) := fun e => by
  obtain ⟨g, gV, hB, hl, hG⟩ := hb.ex
  refine ⟨fun pins s σ H Q I h => wpAny_Call_Name_kw (ld_glob I hg hm (PySem.W.callWith_KW0 (h₀ := X.base) I.ok.mod.kin hk hall ?_ hpl) hdb)⟩
  obtain ⟨F0, r0, k0, P0, hm0, h0⟩ := fn_read hl hG h
  refine thn ((hkw e).run pos pins s σ H _ I (h0 _ r0 [] F0 H hm0 k0 (Sub.refl _) .nil)) ?_
  rintro ws s2 ⟨zs, H2, I2, rz, l1, l2, q2⟩
  refine ⟨I2.kIn, ?_⟩
  rw [hks]
  exact run_fnd (us := []) F hr hgu hB I2 .nil rz l1 l2 q2
end
section
variable {X : Cx} {a : Expr} {es : List Expr} {ma : ME} {ms : MA} {x : Str} {p pos apos : Pos} {i : Nat}
/-- what a method does to a box's list -/
abbrev FM := List D → List D → Option (D × List D)
/-- a method of lists and what it does, told so that it runs -/
structure MtK where
  f : FM
  k : List D → List D → (D → List D → Prop) → Prop
  ok : ∀ ds as K, k ds as K → ∃ d ds', f ds as = some (d, ds') ∧ K d ds'
def isL (r : Rho) (i : Nat) : Bool := match r[i]? with
  | some (some (.box _ (.L _))) => true
  | _ => false
theorem isL_of {r : Rho} {i : Nat} (h : isL r i = true) : ∃ b ds, r[i]? = some (some (Ce.box b (.L ds))) := by
  unfold isL at h
  split at h
  · exact ⟨_, _, by assumption⟩
  · cases h
def bxL (r : Rho) (i : Nat) : Option (Bool × List D) := match r[i]? with
  | some (some (.box b (.L ds))) => some (b, ds)
  | _ => none
theorem bxL_of {r : Rho} {i : Nat} {q : Bool × List D} (h : bxL r i = some q) : r[i]? = some (some (.box q.1 (.L q.2))) := by
  unfold bxL at h
  split at h
  · rename_i e; cases h; exact e
  · cases h
def mMeth (i : Nat) (o : MtK) (ms : MA) : ME := fun r P => rqB (isL r i) (ms r fun xs r1 => onP (holds r1 xs) fun qa qb => onP (bxL qb i) fun ba bb => o.k bb qa fun d ds' => strict (qb.set i (some (.box ba (.L ds')))) fun r3 => P (.val d) r3)
def MetD (X : Cx) (id : String) (f : FM) : Prop := ∃ rr : V → List V → Hp → VK → Prop, MtR X id rr ∧ ∀ (F H : Hp) (p : Addr) (xs vs : List V) (ds as : List D) (d : D) (ds' : List D) (Q : VK), Sub F H → H p = some (.lst xs) → RpA X.K F xs ds → RpA X.K F vs as → f ds as = some (d, ds') →
  (∀ v xs', RpA X.K F xs' ds' → Rp X.K F v d → Q v (upd H p (.lst xs'))) → rr (.ref p) vs H Q
theorem meth_read {e : En} {o : MtK} {rr : V → List V → Hp → VK → Prop} (hq : ∀ (F H : Hp) (p : Addr) (xs vs : List V) (ds as : List D) (d : D) (ds' : List D) (Q : VK), Sub F H → H p = some (.lst xs) → RpA X.K F xs ds → RpA X.K F vs as → o.f ds as = some (d, ds') →
    (∀ v xs', RpA X.K F xs' ds' → Rp X.K F v d → Q v (upd H p (.lst xs'))) → rr (.ref p) vs H Q) {s : L2.St} {H : Hp} {Q : VK} (h : T X.K e (mMeth i o ms) s H Q) :
    ∃ v, s[i]? = some (some v) ∧ tyV X.K "list" v H ∧ TAl X.K e ms s H fun vs H2 => rr v vs H2 Q := by
  obtain ⟨F, r, k, P, hx, hP⟩ := h
  obtain ⟨hi, hm⟩ := rqB.ex hx
  obtain ⟨b, ds, hb⟩ := isL_of hi
  obtain ⟨p, ob, g1, g2, g3, _⟩ := k.box i b _ hb
  cases g3 with | L g3 =>
  refine ⟨.ref p, g1, .inl ⟨rfl, _, SqL.of g2⟩, F, r, k, _, hm, ?_⟩
  intro xs r1 vs F1 H1 hx1 k1 q1 t1
  obtain ⟨as, r2, eh, hx2⟩ := onP.ex hx1
  obtain ⟨b2, ds2, er', hx3⟩ := onP.ex hx2
  obtain ⟨d, ds', ef, hx4⟩ := o.ok _ _ _ hx3
  have er := bxL_of er'
  have hp := hx4.ex
  simp only at er ef hp
  obtain ⟨F2, k2, q2, ra⟩ := t1.holds k1 eh
  obtain ⟨p2, o2, w1, w2, w3, w4, w5, w6⟩ := k2.box i b2 _ er
  rw [g1] at w1; cases w1
  cases w3 with | L w3 =>
  exact hq F2 H1 p _ vs ds2 as d ds' Q k2.sub w2 w3 ra ef fun v xs' h1 h2 => hP _ _ v F2 _ hp (k2.write er g1 (.L h1)) (q1.trans q2) (.val h2)
theorem de_meth {id : String} {name : Str} {o : MtK} (hm : MetD X id o.f) (slot : Slot "list" name id) (hty : typeOf (.builtin id) = pure (.type "method_descriptor")) (hN : X.N[i]? = some x) (hv : Vis X.env.scope x) (ha : DA X (a :: es) ms)
    (hd : (x == ("__debug__" : Str)) = false := by decide) (hcd : (x == ("__classdict__" : Str)) = false := by decide) (hbase : attributeBase (.Name x p) name X.env (eval (.Name x p) X.env) = eval (.Name x p) X.env := by rfl)
    (hfew : ((backTo pos (starEach (a :: es) X.env)).all (fun x => !x.1) && (backToKw pos (keywordEach [] X.env)).all (fun x => x.1.isSome) && decide ((a :: es).length + ([] : List Keyword).length + (if ([] : List Keyword).isEmpty then 0 else 1) < 30)) = true := by rfl)
    (hline : (apos.endLine == pos.line) = true := by rfl) (hs : starEach (a :: es) X.env = (false, eval a X.env) :: starEach es X.env := by rfl) (hplain : (backTo pos (starEach es X.env)).any (·.1) = false := by rfl) : DE X (.Call (.Attribute (.Name x p) name apos) (a :: es) [] pos) (mMeth i o ms) := fun e => by
  obtain ⟨rr, hr, hq⟩ := hm
  exact PE.imp (pe_bm PySem.F.plainAttrs_list slot hty hr (pe_var hN hv hd hcd) (ha e) hbase hfew hline hs hplain) fun s H Q h => by
    obtain ⟨v, h1, h2, h3⟩ := meth_read hq h
    exact ⟨v, h1, h2, h3⟩
theorem de_meth0 {id : String} {name : Str} {o : MtK} (hm : MetD X id o.f) (slot : Slot "list" name id) (hty : typeOf (.builtin id) = pure (.type "method_descriptor")) (hN : X.N[i]? = some x) (hv : Vis X.env.scope x)
    (hd : (x == ("__debug__" : Str)) = false := by decide) (hcd : (x == ("__classdict__" : Str)) = false := by decide) (hbase : attributeBase (.Name x p) name X.env (eval (.Name x p) X.env) = eval (.Name x p) X.env := by rfl)
    (hline : (apos.endLine == pos.line) = true := by rfl) : DE X (.Call (.Attribute (.Name x p) name apos) [] [] pos) (mMeth i o aNil) := fun e => by
  obtain ⟨rr, hr, hq⟩ := hm
  exact PE.imp (pe_bm0 PySem.F.plainAttrs_list slot hty hr (pe_var hN hv hd hcd) hbase hline) fun s H Q h => by
    obtain ⟨v, h1, h2, F, r, k, P, hm, hP⟩ := meth_read hq h
    exact ⟨v, h1, h2, hP _ r [] F H hm k (Sub.refl F) .nil⟩
def fAppend : FM := fun ds as => match as with
  | [d] => if ds.length < sizeLine then some (.none, ds ++ [d]) else none
  | _ => none
theorem met_append : MetD X "list.append" fAppend := by
  refine ⟨_, mt_append, fun F H p xs vs ds as d ds' Q sb hp r1 r2 ef w => ?_⟩
  unfold fAppend at ef
  split at ef
  · split at ef
    · rename_i hz; cases ef
      cases r2 with | cons a b =>
      cases b
      exact ⟨p, xs, _, rfl, rfl, hp, by rw [r1.length]; exact hz, w _ _ (r1.append (.cons a .nil)) .non⟩
    · cases ef
  · cases ef
def rExtR : V → List V → Hp → VK → Prop := fun x vs H Q => ∃ l b xs zs, x = .ref l ∧ vs = [.ref b] ∧ H l = some (.lst xs) ∧ Rd H b (.lst zs) ∧ xs.length + zs.length ≤ sizeLine ∧ Q .non (upd H l (.lst (xs ++ zs)))
theorem mt_extendR : MtM X "list.extend" rExtR := by
  rintro pins s σ H _ _ v us Q I rx rv ⟨l, b, xs, zs, rfl, rfl, hH, hB, hz, q⟩
  cases rx
  obtain ⟨u, rfl, ru⟩ := rv.one
  cases ru
  obtain ⟨z, its, n, r, hl, e⟩ := I.lstM hH
  obtain ⟨_, i2, n2, r2, e2⟩ := rd_list hB I.hok
  have l2 := r2.length
  have hsz : its.toArray.size + i2.toArray.size ≤ sizeLine := by rw [List.size_toArray, List.size_toArray]; omega
  have hlong : ¬ (!its.toArray.isEmpty && Builtin.List.listTooLong (its.toArray.size + i2.toArray.size)) = true := by
    rw [notLongL hsz, Bool.and_false]; exact Bool.false_ne_true
  refine call_meets PySem.F.slot_list_extend ⟨_, e, rfl⟩ PySem.F.entry_list_extend (PySem.F.args_list_extend_2 _ _) (AutoSeq1.list_extend_list_list_0 l its.toArray n b i2.toArray n2 hlong (by rw [List.size_toArray]; omega) (by omega)) ⟨e, e2, ?_⟩
  exact ⟨.non, _, I.lset (its' := its ++ i2) hH e (by simp) (r.append r2) (by rw [List.length_append]; omega), rfl, q⟩
def fExtend : FM := fun ds as => match as with
  | [.list es] => if ds.length + es.length ≤ sizeLine then some (.none, ds ++ es) else none
  | _ => none
theorem met_extend : MetD X "list.extend" fExtend := by
  refine ⟨_, mt_extendR, fun F H p xs vs ds as d ds' Q sb hp r1 r2 ef w => ?_⟩
  unfold fExtend at ef
  split at ef
  · split at ef
    · rename_i hz; cases ef
      cases r2 with | cons a b =>
      cases b
      cases a with | lst g1 g2 => exact ⟨p, _, xs, _, rfl, rfl, hp, sb.rd g1, by rw [r1.length, g2.length]; exact hz, w _ _ (r1.append g2) .non⟩
    · cases ef
  · cases ef
def fClear : FM := fun ds as => match as with
  | [] => some (.none, [])
  | _ => none
theorem met_clear : MetD X "list.clear" fClear := by
  refine ⟨_, mt_clear, fun F H p xs vs ds as d ds' Q sb hp r1 r2 ef w => ?_⟩
  unfold fClear at ef
  split at ef
  · cases ef; cases r2; exact ⟨p, xs, rfl, rfl, hp, w _ _ .nil .non⟩
  · cases ef
end
def kAppend (ds as : List D) (K : D → List D → Prop) : Prop := match as with
  | [d] => Rq (ds.length < sizeLine) (K .none (ds ++ [d]))
  | _ => False
def tAppend : MtK := ⟨fAppend, kAppend, fun ds as K h => by
  unfold kAppend at h
  split at h
  · exact ⟨_, _, rq_if h, Rq.a h⟩
  · exact h.elim⟩
def kExtend (ds as : List D) (K : D → List D → Prop) : Prop := match as with
  | [.list es] => Rq (ds.length + es.length ≤ sizeLine) (K .none (ds ++ es))
  | _ => False
def tExtend : MtK := ⟨fExtend, kExtend, fun ds as K h => by
  unfold kExtend at h
  split at h
  · exact ⟨_, _, rq_if h, Rq.a h⟩
  · exact h.elim⟩
def kClear (ds as : List D) (K : D → List D → Prop) : Prop := match as with
  | [] => K .none []
  | _ => False
def tClear : MtK := ⟨fClear, kClear, fun ds as K h => by
  unfold kClear at h
  split at h
  · exact ⟨_, _, rfl, h⟩
  · exact h.elim⟩
end DL
namespace DL
open PySem L2 PyProof.Rows
section
variable {prog : Program} {w : World} {A : Around} {E : Value → Shared → Prop} {s : Shared}
theorem star_fin {items : Array Value} {n i : Nat} {Q : List Value → Shared → Prop} {h2 : Heap} {tk : Nat} (hi : i < n) (hn : n ≤ items.size + 1) (hz : items.size ≤ sizeLine)
    (hQ : Q (items.toList.take i ++ [.ref h2.objs.size] ++ (items.toList.drop i).drop (items.size + 1 - n)) { s with heap := h2.push { cls := .type "list", data := .seq ((items.toList.drop i).take (items.size + 1 - n)).toArray }, toks := tk }) :
    wpAny (model prog w) A (do
      if (items.toList.drop i).length < n - 1 - i then
        rule "unpack.star.too-few"
        raiseError "ValueError" s!"not enough values to unpack (expected at least {n - 1}, got {i + (items.toList.drop i).length})"
      pure (items.toList.take i ++ [← newList ((items.toList.drop i).take ((items.toList.drop i).length - (n - 1 - i)))] ++ (items.toList.drop i).drop ((items.toList.drop i).length - (n - 1 - i)))) Q E { s with heap := h2, toks := tk } := by
  have hrl : (items.toList.drop i).length = items.size - i := by rw [List.length_drop, Array.length_toList]
  have hmid : (items.toList.drop i).length - (n - 1 - i) = items.size + 1 - n := by rw [hrl]; omega
  rw [if_neg (by rw [hrl]; omega), hmid]
  exact wpAny_bind (wpAny_newList (wpAny_pure hQ) (by rw [List.length_take, hrl]; omega))
theorem star_tuple {t : Addr} {items : Array Value} {n i : Nat} {Q : List Value → Shared → Prop} (hh : A.handled = none) (ht : IsTup s.heap t items) (hi : i < n) (hn : n ≤ items.size + 1) (hz : items.size ≤ sizeLine)
    (hQ : ∀ (h' : Heap) (tk : Nat), (∀ b o, s.heap.get? b = some o → h'.get? b = some o) → Q (items.toList.take i ++ [.ref h'.objs.size] ++ (items.toList.drop i).drop (items.size + 1 - n)) { s with heap := h'.push { cls := .type "list", data := .seq ((items.toList.drop i).take (items.size + 1 - n)).toArray }, toks := tk }) :
    wpAny (model prog w) A (unpackItems (.ref t) n (some i)) Q E s := by
  have lt : t < s.heap.objs.size := by obtain ⟨o, ho, _⟩ := ht; exact Heap.lt_size ho
  have hlt : t ≠ s.heap.objs.size := Nat.ne_of_lt lt
  unfold unpackItems notIterableAtAll
  refine wpAny_bind (wpAny_bind (wpAny_specialOf ht.typeIs slot_tuple_iter.lookup (wpAny_pure ?_)))
  simp only [Bool.false_eq_true, if_false]
  refine wpAny_bind (wpAny_holding (iter_tuple ht (wpAny_bind (wpAny_holding (draw_tuple hlt i 0 _ _ ⟨_, Heap.get?_push_size _ rfl, rfl, rfl⟩ (ht.push _) (by omega) fun h1 it1 sb1 => ?_)))))
  have t1 : IsTup h1 t items := (ht.push _).extBut sb1.extBut hlt
  rw [Nat.zero_add] at it1
  have hI : s.heap.objs.size < h1.objs.size := by obtain ⟨oi, hoi, _⟩ := id it1; exact Heap.lt_size hoi
  have hT : t < h1.objs.size := by obtain ⟨ol, hol, _⟩ := id t1; exact Heap.lt_size hol
  rw [List.drop_zero]
  have hfl : (items.toList.take i).length = i := by rw [List.length_take, Array.length_toList]; omega
  rw [if_neg (show ¬ ((items.toList.take i).length < i) by rw [hfl]; omega)]
  refine wpAny_bind (wpAny_holding (PySem.W.kun_collect (s := { s with heap := h1 }) (T := "tuple_iterator") (.inr (.inr (.inr rfl))) (Walks.tuple (A := A.in1) hh s.heap.objs.size t hlt items) (fun j u st => st.1.typeIs) (k := i) (by omega) ⟨it1, t1⟩ hI hT (fun h2 tk hk => ?_) hz))
  exact star_fin hi hn hz (hQ h2 tk fun b o e => hk b o (Nat.ne_of_lt (Heap.lt_size e)) (sb1.extBut b o (Nat.ne_of_lt (Heap.lt_size e)) (Heap.get?_push_of_some _ e)))
theorem star_list {t : Addr} {items : Array Value} {n i : Nat} {Q : List Value → Shared → Prop} (hh : A.handled = none) (ht : s.heap.IsList t items) (hi : i < n) (hn : n ≤ items.size + 1) (hz : items.size ≤ sizeLine)
    (hQ : ∀ (h' : Heap) (tk : Nat), (∀ b o, s.heap.get? b = some o → h'.get? b = some o) → Q (items.toList.take i ++ [.ref h'.objs.size] ++ (items.toList.drop i).drop (items.size + 1 - n)) { s with heap := h'.push { cls := .type "list", data := .seq ((items.toList.drop i).take (items.size + 1 - n)).toArray }, toks := tk }) :
    wpAny (model prog w) A (unpackItems (.ref t) n (some i)) Q E s := by
  have lt : t < s.heap.objs.size := by obtain ⟨o, ho, _⟩ := ht; exact Heap.lt_size ho
  have hlt : t ≠ s.heap.objs.size := Nat.ne_of_lt lt
  unfold unpackItems notIterableAtAll
  refine wpAny_bind (wpAny_bind (wpAny_specialOf ht.typeIs slot_list_iter.lookup (wpAny_pure ?_)))
  simp only [Bool.false_eq_true, if_false]
  refine wpAny_bind (wpAny_holding (wpAny_pyIter_list ht (wpAny_bind (wpAny_holding (PySem.W.kun_draw hlt i 0 _ _ ⟨_, Heap.get?_push_size _ rfl, rfl, rfl⟩ (ht.push _) (by omega) fun h1 it1 sb1 => ?_)))))
  have t1 : h1.IsList t items := (ht.push _).extBut sb1.extBut hlt
  rw [Nat.zero_add] at it1
  have hI : s.heap.objs.size < h1.objs.size := by obtain ⟨oi, hoi, _⟩ := id it1; exact Heap.lt_size hoi
  have hT : t < h1.objs.size := by obtain ⟨ol, hol, _⟩ := id t1; exact Heap.lt_size hol
  rw [List.drop_zero]
  have hfl : (items.toList.take i).length = i := by rw [List.length_take, Array.length_toList]; omega
  rw [if_neg (show ¬ ((items.toList.take i).length < i) by rw [hfl]; omega)]
  refine wpAny_bind (wpAny_holding (PySem.W.kun_collect (s := { s with heap := h1 }) (T := "list_iterator") (.inr (.inr (.inl rfl))) (Walks.list (A := A.in1) hh s.heap.objs.size t hlt items) (fun j u st => st.1.typeIs) (k := i) (by omega) ⟨it1, t1⟩ hI hT (fun h2 tk hk => ?_) hz))
  exact star_fin hi hn hz (hQ h2 tk fun b o e => hk b o (Nat.ne_of_lt (Heap.lt_size e)) (sb1.extBut b o (Nat.ne_of_lt (Heap.lt_size e)) (Heap.get?_push_of_some _ e)))
end
section
variable {X : Cx} {a b c t : Expr} {es : List Expr} {x : Str} {pos : Pos} {vs : List Nat} {g : GT} {gs : GTs}
def starL {α : Type} (n i : Nat) (mk : List α → α) (xs : List α) : List α := xs.take i ++ [mk ((xs.drop i).take (xs.length + 1 - n))] ++ (xs.drop i).drop (xs.length + 1 - n)
def gStarV (K : PySem.W.Frag) (n i : Nat) (t : TGs) : TG := fun v σ H Q => ∃ a xs, v = .ref a ∧ (SqT K H a xs ∨ SqL K H a xs) ∧ i < n ∧ n ≤ xs.length + 1 ∧ ∀ p, H p = none → t (starL n i (fun _ => .ref p) xs) σ (upd H p (.lst ((xs.drop i).take (xs.length + 1 - n)))) Q
theorem pg_star {k : Nat} {t : TGs} {n i : Nat} (hc : X.calm = true) (h : PGs X es t)
    (hn : (assignEach es X.env).length = n := by rfl) (hst : (assignEach es X.env).findIdx? (·.1) = some i := by rfl) : PG X (.Tuple es k pos) (gStarV X.K n i t) := by
  refine ⟨fun pins s σ H v u Q I r hw => ?_⟩
  obtain ⟨a, xs, e1, hq, hi, hl, hw⟩ := hw
  subst e1
  cases r
  have fin : ∀ (its : List Value) (h' : Heap) (tk : Nat), Vals xs its → xs.length ≤ sizeLine → (∀ b o, s.heap.get? b = some o → h'.get? b = some o) →
      wpAny (model X.prog X.w) X.A (assignInOrder ((assignEach es X.env).map (·.2)) (its.take i ++ [.ref h'.objs.size] ++ (its.drop i).drop (its.length + 1 - n))) (fun _ s' => ∃ σ' H', L2.Inv X pins σ' H' s' ∧ Q σ' H') X.xe { s with heap := h'.push { cls := .type "list", data := .seq ((its.drop i).take (its.length + 1 - n)).toArray }, toks := tk } := by
    intro its h' tk rv hz hk
    have I1 : L2.Inv X pins σ H { s with heap := h', toks := tk } := I.kept hk
    have le := rv.length
    have I2 : L2.Inv X pins σ (upd H h'.objs.size (.lst ((xs.drop i).take (xs.length + 1 - n)))) { s with heap := h'.push { cls := .type "list", data := .seq ((its.drop i).take (its.length + 1 - n)).toArray }, toks := tk } := by
      refine I1.laid (t' := tk) (fun b ob q => Heap.get?_push_of_some _ q) (Nat.le_refl _) ?_
      refine ⟨by rw [List.length_take, List.length_drop]; omega, _, 0, ?_, Heap.get?_push_size _ rfl⟩
      rw [le]
      exact (rv.drop i).take _
    refine h.run pins _ σ _ _ _ Q I2 ?_ (hw _ (I1.hok.fresh (Nat.le_refl _)))
    unfold starL
    rw [le]
    exact ((rv.take i).append (.cons (show L2.RelV (V.ref h'.objs.size) (.ref h'.objs.size) from rfl) .nil)).append ((rv.drop i).drop _)
  rw [assign_Tuple]
  refine wpAny_bind (wpAny_standAt ?_)
  unfold unpack
  rw [hn, hst]
  rcases hq with hq | hq
  · obtain ⟨its, rv, ht, hz⟩ := I.tuple hq
    have le := rv.length
    refine wpAny_bind (wpAny_holding (star_tuple (I.ok.hd hc) ht hi (by rw [List.size_toArray]; omega) (by rw [List.size_toArray]; omega) fun h' tk hk => ?_))
    have := fin its h' tk rv hz hk
    simpa using this
  · obtain ⟨its, rv, ht, hz⟩ := I.list hq
    have le := rv.length
    refine wpAny_bind (wpAny_holding (star_list (I.ok.hd hc) ht.isList hi (by rw [List.size_toArray]; omega) (by rw [List.size_toArray]; omega) fun h' tk hk => ?_))
    have := fin its h' tk rv hz hk
    simpa using this
def seqD : D → Option (List D)
  | .tuple ds => some ds
  | .list ds => some ds
  | _ => none
def gStar (n i : Nat) (gs : GTs) : GT := fun d r => match seqD d with
  | some ds => if i < n ∧ n ≤ ds.length + 1 then gs (starL n i .list ds) r else none
  | none => none
theorem dg_star {k : Nat} {n i : Nat} (hc : X.calm = true) (h : DGs X es vs gs) (hn : (assignEach es X.env).length = n := by rfl) (hst : (assignEach es X.env).findIdx? (·.1) = some i := by rfl) : DG X (.Tuple es k pos) vs (gStar n i gs) := fun e =>
  PG.imp (pg_star hc (h e) hn hst) fun v s H Q ⟨F, r, d, r', k, rp, eg, hQ⟩ => by
    unfold gStar at eg
    split at eg
    · rename_i ds ed
      split at eg
      · rename_i hl
        have fin : ∀ (a : Addr) (xs : List V), RpA X.K F xs ds → (SqT X.K H a xs ∨ SqL X.K H a xs) → gStarV X.K n i (TGts X.K e vs gs) (.ref a) s H Q := by
          intro a xs ra hq
          have le := ra.length
          refine ⟨a, xs, rfl, hq, hl.1, by omega, fun p hp => ?_⟩
          have fr := k.free hp
          have k1 := k.lay (o := .lst ((xs.drop i).take (xs.length + 1 - n))) hp
          have sb : Sub F (upd F p (.lst ((xs.drop i).take (xs.length + 1 - n)))) := Sub.new fr.1
          refine ⟨_, r, _, r', k1, ?_, eg, fun s' F' H' k' q' w' => hQ s' F' H' k' (sb.trans q') w'⟩
          have rb := ra.mono sb
          unfold starL
          rw [← le]
          exact ((rb.take i).append (.cons (.lst (.inl upd_same) ((rb.drop i).take _)) .nil)).append ((rb.drop i).drop _)
        cases rp with
        | tup g1 g2 => cases ed; exact fin _ _ g2 (.inl (k.sub.sqT g1.sqT))
        | lst g1 g2 => cases ed; exact fin _ _ g2 (.inr (.inl (k.sub.rd g1)))
        | _ => cases ed
      · cases eg
    · cases eg
theorem dgs_star {p : Pos} (h1 : DG X t vs g) (h2 : DGs X es vs gs) (hs : (assignEach (.Starred t p :: es) X.env).map (·.2) = assign t X.env :: (assignEach es X.env).map (·.2) := by rfl) : DGs X (.Starred t p :: es) vs (gCs g gs) := fun e => by
  refine ⟨fun pins s σ H us ws Q I r ⟨F, r0, d, r', k, rp, eg, hQ⟩ => ?_⟩
  cases rp with
  | nil => cases eg
  | cons r1 r2 =>
    simp only [gCs] at eg
    split at eg
    · rename_i r1' e1
      cases r with
      | cons rv rr =>
        rw [hs]
        refine assignInOrder_cons (thn ((h1 e).run pins s σ H _ _ _ I rv ⟨F, r0, _, r1', k, r1, e1, fun s1 F1 H1 k1 q1 w1 => (⟨F1, r1', _, r', k1, r2.mono q1, eg, fun s2 F2 H2 k2 q2 w2 => hQ s2 F2 H2 k2 (q1.trans q2) (w2.trans w1)⟩ : TGts X.K e vs gs _ s1 H1 Q)⟩) fun _ s1 ⟨σ1, H1, I1, q1⟩ => ?_)
        exact (h2 e).run pins s1 σ1 H1 _ _ Q I1 rr q1
    · cases eg
def sAsg (m : ME) (g : GT) : MS := fun r O => m r fun x r1 => onP (hold r1 x.tmp) fun qa qb => onS (g qa qb) O.nx
theorem ds_asg {ma : ME} (ha : DE X a ma) (hg : DG X b vs g) (hs : swapsWithSole [b] a pos.line X.env = pure false := by rfl) (hw : swappedStores [b] a X.env = pure none := by rfl)
    (h1 : (assignEach [b] X.env).map (·.2) = [assign b X.env] := by rfl) : DS X (.Assign [b] a pos) (sAsg ma g) := fun e =>
  PS.imp (ps_asg (ha.tmp e) (hg e) hs hw h1) fun D s H ⟨F, r, k, O, hm, h⟩ => ⟨F, r, k, fun x r1 => onP (hold r1 x) fun qa qb => onS (g qa qb) O.nx, hm, fun x r1 v F1 H1 hx k1 q t => by
    obtain ⟨d, r2, eh, hx2⟩ := onP.ex hx
    obtain ⟨r3, eg, hp⟩ := onS.ex hx2
    obtain ⟨F2, k2, q2, rp⟩ := t.hold k1 eh
    exact ⟨F2, r2, d, r3, k2, rp, eg, fun s' F' H' k' q' w' => h.nx r3 s' F' H' hp k' ((q.trans q2).trans q')⟩⟩
end
end DL
namespace DL
open PySem L2 PyProof.Rows
section
variable {X : Cx} {elt tg iter c : Expr} {ifs : List Expr} {scope : Scope} {own : List (Str × Nat)} {pos spos py : Pos} {mi : MI} {g : GT} {tt : MT} {te : ME} {vs : List Nat} {y : Str} {i : Nat}
/-- name = [.. for ..] -/
theorem ds_setLc (hc : X.calm = true) (hN : X.N.Nodup) (hy : X.N[i]? = some y) (hyl : X.env.scope.names.lookup y = some .local) (hk : X.env.scope.kind = .function) (hi : DI X tg iter mi) (ok : BlkOk X.N X.env.scope scope own)
    (hg : ∀ (s : Shared) (H : Hp) (C : Addr) (cl : List (Str × Addr)) (fp : List Addr), DG (X.blk s H scope (compEnvC scope cl C X.env) fp) tg (own.map (·.2)) g) (ht : ∀ (s : Shared) (H : Hp) (C : Addr) (cl : List (Str × Addr)) (fp : List Addr), DTs (X.blk s H scope (compEnvC scope cl C X.env) fp) ifs tt)
    (he : ∀ (s : Shared) (H : Hp) (C : Addr) (cl : List (Str × Addr)) (fp : List Addr), DE (X.blk s H scope (compEnvC scope cl C X.env) fp) elt te) (hs : ∀ x, foldedSetIterable iter X.env x = pure x := by intro _; rfl)
    (hl : (py.line == pos.line) = true := by rfl) (ha : (scope.names.any fun (n, k) => n == y && (k == .local || k == .cell)) = false := by rfl) :
    DS X (.Assign [.Name y py] (.ListComp elt [⟨tg, iter, ifs, 0⟩] scope pos) spos) (sSet i (mLc (own.map (·.2)) mi g tt te)) := fun e => by
  refine PS.imp (ps_setLc (g := fun v s H Q => ∃ e', TGt X.K e' (own.map (·.2)) g v s H Q) (tt := fun s H Q => ∃ e', TB X.K e' tt s H Q) (te := fun s H Q => ∃ e', Tt X.K e' (mTmp te) s H Q) hc hN hy hyl (sw_true hk hyl hl ha) (hi e) ok
    (fun s H C cl fp => ⟨fun pins s σ H v u Q I r ⟨e', q⟩ => (hg _ _ C cl fp e').run pins s σ H v u Q I r q⟩) (fun s H C cl fp => ⟨fun pins s σ H Q I ⟨e', q⟩ => (ht _ _ C cl fp e').run pins s σ H Q I q⟩) (fun s H C cl fp => ⟨fun pins s σ H Q I ⟨e', q⟩ => ((he _ _ C cl fp).tmp e').run pins s σ H Q I q⟩) hs) ?_
  rintro D s H ⟨F, r, k, O, hm, h⟩
  refine lc_read rfl ⟨F, r, k, _, hm, ?_⟩ _ _ _ (fun e' _ _ _ _ q => ⟨e', q⟩) (fun e' _ _ _ q => ⟨e', q⟩) fun e' _ _ _ q => ⟨e', q⟩
  intro x r1 v F1 H1 hx k1 q t
  obtain ⟨r2, ep, hp⟩ := onS.ex hx
  obtain ⟨F2, k2, q2⟩ := t.put k1 ep
  exact h.nx r2 _ F2 H1 hp k2 (q.trans q2)
end
section
variable {X : Cx} {a b : Expr} {ma mb : ME} {pos pos' p : Pos} {x : Str} {i : Nat}
def itOf : D → Option Int
  | .int i => some i
  | _ => none
theorem itOf_of {d : D} {i : Int} (h : itOf d = some i) : d = .int i := by
  unfold itOf at h
  split at h
  · cases h; rfl
  · cases h
/-- the items of a list, one by one -/
def strictL (l : List D) (K : List D → Prop) : Prop := match l with
  | [] => K []
  | d :: l => strictL l fun l' => K (d :: l')
theorem strictL.ex : ∀ {l : List D} {K : List D → Prop}, strictL l K → K l
  | [], _, h => h
  | _ :: l, K, h => strictL.ex (l := l) h
def KPut (i : Nat) (d : D) (O : Out) (y : R) (r : Rho) : Prop := onO (look r y) fun z => onO (itOf z) fun k => onP (bxL r i) fun ba bb => onO (ixN bb.length k) fun j => strictL (bb.set j d) fun l => strict (r.set i (some (.box ba (.L l)))) O.nx
theorem KPut.ex {i : Nat} {d : D} {O : Out} {y : R} {r : Rho} (h : KPut i d O y r) : ∃ k bo ds j, look r y = some (.int k) ∧ r[i]? = some (some (.box bo (.L ds))) ∧ ixN ds.length k = some j ∧ O.nx (r.set i (some (.box bo (.L (ds.set j d))))) := by
  obtain ⟨z, e1, h1⟩ := onO.ex h
  obtain ⟨k, e2, h2⟩ := onO.ex h1
  obtain ⟨ba, bb, e3, h3⟩ := onP.ex h2
  obtain ⟨j, e4, h4⟩ := onO.ex h3
  cases itOf_of e2
  exact ⟨k, ba, bb, j, e1, bxL_of e3, e4, h4.ex.ex⟩
def sPut (i : Nat) (ma mb : ME) : MS := fun r O => ma r fun x r1 => onP (hold r1 x.tmp) fun qa qb => rqB (isL qb i) (mb qb fun y r3 => KPut i qa O y.tmp r3)
theorem ds_put (hN : X.N[i]? = some x) (hv : Vis X.env.scope x) (ha : DE X a ma) (hb : DE X b mb) (hd : (x == ("__debug__" : Str)) = false := by decide) (hcd : (x == ("__classdict__" : Str)) = false := by decide)
    (hsub : ∀ v, assign (.Subscript (.Name x p) b pos') X.env v = (do
      let ov ← holding [v] (eval (.Name x p) X.env)
      let iv ← holding [v, ov] (eval b X.env)
      standAt pos'
      holding [v, ov, iv] (setItem ov iv v)
      release [v, ov, iv] []) := by intro _; rfl)
    (hs : swapsWithSole [.Subscript (.Name x p) b pos'] a pos.line X.env = pure false := by rfl) (hw : swappedStores [.Subscript (.Name x p) b pos'] a X.env = pure none := by rfl)
    (h1 : (assignEach [.Subscript (.Name x p) b pos'] X.env).map (·.2) = [assign (.Subscript (.Name x p) b pos') X.env] := by rfl) : DS X (.Assign [.Subscript (.Name x p) b pos'] a pos) (sPut i ma mb) := fun e =>
  PS.imp (ps_asg (ha.tmp e) (pg_sub (pe_var hN hv hd hcd) (hb.tmp e) set_list hsub) hs hw h1) fun D s H ⟨F, r, k, O, hm, h⟩ => ⟨F, r, k, fun x r1 => onP (hold r1 x) fun qa qb => rqB (isL qb i) (mb qb fun y r3 => KPut i qa O y.tmp r3), hm, fun x r1 v F1 H1 hx k1 q t => by
    obtain ⟨d, r2, eh, hx2⟩ := onP.ex hx
    obtain ⟨hl, hp⟩ := rqB.ex hx2
    obtain ⟨F2, k2, q2, rp⟩ := t.hold k1 eh
    obtain ⟨bo, ds, hbx⟩ := isL_of hl
    obtain ⟨pp, o, g1, g2, g3, g4⟩ := k2.box i bo _ hbx
    refine ⟨.ref pp, g1, F2, r2, k2, fun y r3 => KPut i d O y r3, hp, ?_⟩
    intro y r3 v3 F3 H3 hy k3 q3 t3
    obtain ⟨k, bo', ds', j, el, er, ej, hn⟩ := KPut.ex hy
    obtain ⟨pp', o', w1, w2, w3, w4⟩ := k3.box i bo' _ er
    rw [g1] at w1; cases w1
    cases w3 with | L w3 =>
    have ei := (t3.look k3 el).int
    refine ⟨pp, _, k, j, rfl, ei, w2, by rw [w3.length]; exact ej, ?_⟩
    exact h.nx _ s F3 _ hn (k3.write er g1 (.L (w3.set (rp.mono q3) j))) ((q.trans q2).trans q3)⟩
def IpD (X : Cx) (op : Operator) (f : F2) : Prop := ∃ t : TIp, PIp X op t ∧ ∀ (F H : Hp) (v1 v2 : V) (d1 d2 z : D) (Q : VK), Lk X.K F H v1 d1 → Lk X.K F H v2 d2 → f d1 d2 = some (.val z) → (∀ v, Rp X.K F v z → Q v H) → t v1 v2 H Q
def fIAdd : F2
  | .int i, .int j => some (.val (.int (i + j)))
  | .str x, .str y => if x.length + y.length ≤ sizeLine then some (.val (.str (x ++ y))) else none
  | _, _ => none
def fISub : F2
  | .int i, .int j => some (.val (.int (i - j)))
  | _, _ => none
theorem ip_str : PIp X .Add (fun x y H Q => ∃ a b : Str, x = .str a ∧ y = .str b ∧ a.length + b.length ≤ sizeLine ∧ Q (.str (a ++ b)) H) := by
  rintro pins s σ H _ _ v u Q I r1 r2 ⟨a, b, rfl, rfl, hz, q⟩
  obtain ⟨t, rfl⟩ := r1
  obtain ⟨t', rfl⟩ := r2
  exact PyProof.Rows.SBL.iadd (fun t' k _ => ⟨.str _, H, I.tok _, ⟨_, rfl⟩, q⟩) hz
theorem ipd_add : IpD X .Add fIAdd := by
  refine ⟨fun x y H Q => (ipI fun i j => i + j) x y H Q ∨ ∃ a b : Str, x = .str a ∧ y = .str b ∧ a.length + b.length ≤ sizeLine ∧ Q (.str (a ++ b)) H, fun pins s σ H x y v u Q I r1 r2 h => h.elim (ip_add pins s σ H x y v u Q I r1 r2) (ip_str pins s σ H x y v u Q I r1 r2), fun F H v1 v2 d1 d2 z Q l1 l2 ef w => ?_⟩
  unfold fIAdd at ef
  split at ef
  · cases ef; exact .inl ⟨_, _, l1.int, l2.int, w _ (.int _)⟩
  · split at ef
    · rename_i hz; cases ef; exact .inr ⟨_, _, l1.str, l2.str, hz, w _ (.str _)⟩
    · cases ef
  · cases ef
theorem ipd_sub : IpD X .Sub fISub := by
  refine ⟨_, ip_sub, fun F H v1 v2 d1 d2 z Q l1 l2 ef w => ?_⟩
  unfold fISub at ef
  split at ef
  · cases ef; exact ⟨_, _, l1.int, l2.int, w _ (.int _)⟩
  · cases ef
/-- an operation with a datum as its answer -/
structure IpK where
  f : F2
  k : D → D → (D → Prop) → Prop
  ok : ∀ d1 d2 K, k d1 d2 K → ∃ z, f d1 d2 = some (.val z) ∧ K z
def kIAdd : D → D → (D → Prop) → Prop
  | .int i, .int j, K => K (.int (i + j))
  | .str x, .str y, K => Rq (x.length + y.length ≤ sizeLine) (K (.str (x ++ y)))
  | _, _, _ => False
def pAdd : IpK := ⟨fIAdd, kIAdd, fun d1 d2 K h => by
  cases d1 <;> cases d2 <;> first
    | exact h.elim
    | exact ⟨_, rfl, h⟩
    | exact ⟨_, rq_if h, Rq.a h⟩⟩
def kISub : D → D → (D → Prop) → Prop
  | .int i, .int j, K => K (.int (i - j))
  | _, _, _ => False
def pSub : IpK := ⟨fISub, kISub, fun d1 d2 K h => by
  cases d1 <;> cases d2 <;> first
    | exact h.elim
    | exact ⟨_, rfl, h⟩⟩
def vlOf (r : Rho) (i : Nat) : Option D := match r[i]? with
  | some (some (.val d)) => some d
  | _ => none
theorem vlOf_of {r : Rho} {i : Nat} {d : D} (h : vlOf r i = some d) : r[i]? = some (some (.val d)) := by
  unfold vlOf at h
  split at h
  · rename_i e; cases h; exact e
  · cases h
def sAug (i : Nat) (o : IpK) (mb : ME) : MS := fun r O => onO (vlOf r i) fun d0 => mb r fun y r1 => onO (look r1 y.tmp) fun d1 => o.k d0 d1 fun z => strict (r1.set i (some (.val z))) O.nx
theorem ds_aug {op : Operator} {o : IpK} (hN : X.N.Nodup) (hi : X.N[i]? = some x) (hx : Loc X.env.scope x) (ho : IpD X op o.f) (hb : DE X b mb) (hf : X.fn x = true ∨ X.env.scope.names.lookup x = some .local := by first | exact .inl rfl | exact .inr rfl | assumption) :
    DS X (.AugAssign (.Name x pos') op b pos) (sAug i o mb) := fun e => by
  obtain ⟨t, ht, hq⟩ := ho
  exact PS.imp (ps_aug hN hi hx (hb.tmp e) ht hf) fun D s H ⟨F, r, k, O, hx, h⟩ => by
    obtain ⟨d0, e0', hm⟩ := onO.ex hx
    have e0 := vlOf_of e0'
    obtain ⟨v0, g1, g2⟩ := k.slot i d0 e0
    refine ⟨v0, g1, F, r, k, fun y r1 => onO (look r1 y) fun d1 => o.k d0 d1 fun z => strict (r1.set i (some (.val z))) O.nx, hm, ?_⟩
    intro y r1 v1 F1 H1 hx1 k1 q1 t1
    obtain ⟨d1, el, hx2⟩ := onO.ex hx1
    obtain ⟨z, ef, hx3⟩ := o.ok _ _ _ hx2
    have hn := hx3.ex
    exact hq F1 H1 v0 v1 d0 d1 z _ (.rp (g2.mono q1)) (t1.look k1 el) ef fun v rv => h.nx _ _ F1 H1 hn (k1.store rv) q1
theorem get_list : PGet X (rIxL X.K) := by
  rintro pins s σ H _ _ v u Q I rx ry ⟨p, xs, i, z, rfl, rfl, hq, he, q⟩
  cases rx
  obtain ⟨t, rfl⟩ := ry
  obtain ⟨its, r, pl, hz⟩ := I.list hq
  obtain ⟨j, h1, h2, h3, h4, h5⟩ := atI_get he
  obtain ⟨w, ew, rw'⟩ := r.get h2
  have hl := r.length
  have hn := line63
  have fin : EP X pins σ Q w s := ⟨z, H, I, rw', q⟩
  by_cases h0 : 0 ≤ i
  · have hj : i.toNat = j := by
      rw [seqIndex_of h0 h5] at h1
      exact Option.some.inj h1
    exact wpAny_getItem_list pl.isList h0 (by omega) (by rw [hj]; simpa using ew) fin
  · have hj : (i + (its.toArray.size : Int)).toNat = j := by
      rw [seqIndex_neg (by omega) h4] at h1
      rw [List.size_toArray, ← hl]
      exact Option.some.inj h1
    exact wpAny_getItem_list_neg pl.isList (by omega) (by rw [List.size_toArray] <;> omega) (by omega) (by rw [hj]; simpa using ew) fin
/-- x[a] op= b, x a box -/
def KAugS2 (i : Nat) (o : IpK) (k : Int) (d0 : D) (O : Out) (y : R) (r : Rho) : Prop := onO (look r y) fun d1 => o.k d0 d1 fun z => onP (bxL r i) fun ba bb => onO (ixN bb.length k) fun j => strictL (bb.set j z) fun l => strict (r.set i (some (.box ba (.L l)))) O.nx
theorem KAugS2.ex {i : Nat} {o : IpK} {k : Int} {d0 : D} {O : Out} {y : R} {r : Rho} (h : KAugS2 i o k d0 O y r) : ∃ d1 z ds' j bo', look r y = some d1 ∧ o.f d0 d1 = some (.val z) ∧ r[i]? = some (some (.box bo' (.L ds'))) ∧ ixN ds'.length k = some j ∧ O.nx (r.set i (some (.box bo' (.L (ds'.set j z))))) := by
  obtain ⟨d1, e1, h1⟩ := onO.ex h
  obtain ⟨z, e2, h2⟩ := o.ok _ _ _ h1
  obtain ⟨ba, bb, e3, h3⟩ := onP.ex h2
  obtain ⟨j, e4, h4⟩ := onO.ex h3
  exact ⟨d1, z, bb, j, ba, e1, e2, bxL_of e3, e4, h4.ex.ex⟩
def KAugS1 (i : Nat) (o : IpK) (mb : ME) (O : Out) (x : R) (r : Rho) : Prop := onO (look r x) fun w => onO (itOf w) fun k => onP (bxL r i) fun ba bb => onO (atI bb k) fun d0 => mb r fun y r2 => KAugS2 i o k d0 O y.tmp r2
theorem KAugS1.ex {i : Nat} {o : IpK} {mb : ME} {O : Out} {x : R} {r : Rho} (h : KAugS1 i o mb O x r) : ∃ k bo ds d0, look r x = some (.int k) ∧ r[i]? = some (some (.box bo (.L ds))) ∧ atI ds k = some d0 ∧ mb r fun y r2 => KAugS2 i o k d0 O y.tmp r2 := by
  obtain ⟨w, e1, h1⟩ := onO.ex h
  obtain ⟨k, e2, h2⟩ := onO.ex h1
  obtain ⟨ba, bb, e3, h3⟩ := onP.ex h2
  obtain ⟨d0, e4, h4⟩ := onO.ex h3
  cases itOf_of e2
  exact ⟨k, ba, bb, d0, e1, bxL_of e3, e4, h4⟩
def sAugS (i : Nat) (o : IpK) (ma mb : ME) : MS := fun r O => rqB (isL r i) (ma r fun x r1 => KAugS1 i o mb O x.tmp r1)
theorem ds_augS {op : Operator} {o : IpK} (hN : X.N[i]? = some x) (hv : Vis X.env.scope x) (ho : IpD X op o.f) (ha : DE X a ma) (hb : DE X b mb) (hd : (x == ("__debug__" : Str)) = false := by decide) (hcd : (x == ("__classdict__" : Str)) = false := by decide)
    (hs : ∀ ov iv new, augStore a ov iv new = (do holding [new, ov, iv] (setItem ov iv new); release [new, ov, iv] []; pure .next) := by intros; rfl) : DS X (.AugAssign (.Subscript (.Name x p) a pos') op b pos) (sAugS i o ma mb) := fun e => by
  obtain ⟨t, ht, hq⟩ := ho
  refine PS.imp (ps_augS (pe_var hN hv hd hcd) (ha.tmp e) get_list (hb.tmp e) ht set_list hs) fun D s H ⟨F, r, k, O, hx0, h⟩ => ?_
  obtain ⟨hl, hm⟩ := rqB.ex hx0
  obtain ⟨bo, ds, hbx⟩ := isL_of hl
  obtain ⟨pp, ob, g1, g2, g3, g4⟩ := k.box i bo _ hbx
  refine ⟨.ref pp, g1, F, r, k, fun x r1 => KAugS1 i o mb O x r1, hm, ?_⟩
  intro y r1 v1 F1 H1 hx1 k1 q1 t1
  obtain ⟨kk, bo1, ds1, d0, el, er, ea, hp⟩ := KAugS1.ex hx1
  obtain ⟨p1, o1, w1, w2, w3, w4⟩ := k1.box i bo1 _ er
  rw [g1] at w1; cases w1
  cases w3 with | L w3 =>
  obtain ⟨v0, ev, rv0⟩ := w3.at ea
  have ei := (t1.look k1 el).int
  refine ⟨pp, _, kk, v0, rfl, ei, .inl (.inl w2), ev, F1, r1, k1, fun y r2 => KAugS2 i o kk d0 O y r2, hp, ?_⟩
  intro y2 r2 v2 F2 H2 hx2 k2 q2 t2
  obtain ⟨d1, z, ds2, j, bo2, el2, ef, er2, ej, hn⟩ := KAugS2.ex hx2
  obtain ⟨p2, o2, u1, u2, u3, u4⟩ := k2.box i bo2 _ er2
  rw [g1] at u1; cases u1
  cases u3 with | L u3 =>
  refine hq F2 H2 v0 v2 d0 d1 z _ (.rp (rv0.mono q2)) (t2.look k2 el2) ef fun v rv => ⟨pp, _, kk, j, rfl, ei, u2, by rw [u3.length]; exact ej, ?_⟩
  exact h.nx _ s F2 _ hn (k2.write er2 g1 (.L (u3.set rv j))) (q1.trans q2)
end
end DL
namespace DL
open PySem L2 PyProof.Rows
mutual
/-- u is the datum d, all of it in K -/
def rpB (K : Fg) : Nat → Value → D → Bool
  | 0, _, _ => false
  | n + 1, u, d => match d, u with
    | .none, .none => true
    | .bool a, .bool b => a == b
    | .int a, .int b _ => a == b
    | .str a, .str b _ => a == b
    | .tuple ds, .ref a => match K.lookup a with
      | some ⟨.type "tuple", none, .seq its _, _⟩ => (decide (its.size ≤ sizeLine) && ds.all noInt) && rpBs K n its.toList ds
      | _ => false
    | _, _ => false
def rpBs (K : Fg) : Nat → List Value → List D → Bool
  | 0, _, _ => false
  | n + 1, us, ds => match us, ds with
    | [], [] => true
    | u :: us, d :: ds => rpB K n u d && rpBs K n us ds
    | _, _ => false
end
theorem rpB_ok (K : Fg) : ∀ n, (∀ u d, rpB K n u d = true → ∃ v, RelV v u ∧ ∀ F, Rp K F v d) ∧ (∀ us ds, rpBs K n us ds = true → ∃ vs, Vals vs us ∧ ∀ F, RpA K F vs ds)
  | 0 => ⟨fun u d h => (by unfold rpB at h; cases h), fun u d h => (by unfold rpBs at h; cases h)⟩
  | n + 1 => by
    obtain ⟨i1, i2⟩ := rpB_ok K n
    refine ⟨fun u d h => ?_, fun us ds h => ?_⟩
    · unfold rpB at h
      split at h
      · exact ⟨.non, rfl, fun F => .non⟩
      · rename_i a b; rw [beq_iff_eq.mp h]; exact ⟨.bl b, rfl, fun F => .bl _⟩
      · rename_i a b t; rw [beq_iff_eq.mp h]; exact ⟨.int b, ⟨t, rfl⟩, fun F => .int _⟩
      · rename_i a b t; rw [eq_of_beq h]; exact ⟨.str b, ⟨t, rfl⟩, fun F => .str _⟩
      · rename_i ds a
        split at h
        · rename_i its nn sl hl
          rw [Bool.and_eq_true, Bool.and_eq_true] at h
          obtain ⟨vs, r, w⟩ := i2 _ _ h.2
          exact ⟨.ref a, rfl, fun F => .tup (.inr ⟨.inr ⟨_, its, nn, hl, rfl, rfl, rfl, of_decide_eq_true h.1.1, r⟩, h.1.2⟩) (w F)⟩
        · cases h
      · cases h
    · unfold rpBs at h
      split at h
      · exact ⟨[], .nil, fun F => .nil⟩
      · rw [Bool.and_eq_true] at h
        obtain ⟨v, r1, w1⟩ := i1 _ _ h.1
        obtain ⟨vs, r2, w2⟩ := i2 _ _ h.2
        exact ⟨v :: vs, .cons r1 r2, fun F => .cons (w1 F) (w2 F)⟩
      · cases h
section
variable {X : Cx} {a b c : Expr} {ma mb mc : ME} {pos p p' apos : Pos} {x : Str} {i : Nat}
theorem de_glob {u : Value} {d : D} (n : Nat) (hg : Gl X x) (hm : X.mg x = some u) (hr : rpB X.K n u d = true) (hd : (x == ("__debug__" : Str)) = false := by decide) : DE X (.Name x pos) (mVal d) := by
  obtain ⟨v, r, w⟩ := (rpB_ok X.K n).1 u d hr
  exact de_const (pe_glob hg hm r hd) w
abbrev Tab := List (Str × Str)
def tLook : Tab → Str → Option Str
  | [], _ => none
  | p :: r, x => if p.1 = x then some p.2 else tLook r x
def tabB (P : Params) : List DictEntry → Tab → Bool
  | [], [] => true
  | ⟨h, .str a _, .str b _⟩ :: r, (x, y) :: t => a == x && b == y && h == PyData.keyHash P x && tabB P r t
  | _, _ => false
theorem tab_lit {P : Params} : ∀ {es : List DictEntry} {t : Tab}, tabB P es t = true → PySem.W.KeysLit P es ∧ ∀ x, (es.find? fun e => Value.isStrOf x e.key).map (·.val) = none ∧ tLook t x = none ∨ ∃ y k, (es.find? fun e => Value.isStrOf x e.key).map (·.val) = some (.str y k) ∧ tLook t x = some y
  | [], [], _ => ⟨trivial, fun x => .inl ⟨rfl, rfl⟩⟩
  | [], _ :: _, h => by unfold tabB at h; cases h
  | e :: es, [], h => by unfold tabB at h; simp at h
  | e :: es, (x0, y0) :: t, h => by
    unfold tabB at h
    split at h
    · rename_i z1 z2; cases z2
    · rename_i h0 a0 k0 b0 k1 r1 x1 y1 t1 e1 e2
      injection e1 with q1 q2
      injection e2 with q3 q4
      injection q3 with q5 q6
      subst q1 q2 q4 q5 q6
      simp only [Bool.and_eq_true, beq_iff_eq] at h
      obtain ⟨⟨⟨g1, g2⟩, g3⟩, g4⟩ := h
      subst g1 g2
      obtain ⟨i1, i2⟩ := tab_lit g4
      refine ⟨⟨⟨_, _, rfl, g3⟩, i1⟩, fun x => ?_⟩
      by_cases q : a0 = x
      · subst q
        refine .inr ⟨b0, k1, ?_, by simp [tLook]⟩
        simp [List.find?_cons, Value.isStrOf]
      · rcases i2 x with ⟨j1, j2⟩ | ⟨y, k, j1, j2⟩
        · refine .inl ⟨?_, by simp [tLook, q, j2]⟩
          rw [List.find?_cons, show Value.isStrOf x (Value.str a0 k0) = false from by simp [Value.isStrOf, q]]
          exact j1
        · refine .inr ⟨y, k, ?_, by simp [tLook, q, j2]⟩
          rw [List.find?_cons, show Value.isStrOf x (Value.str a0 k0) = false from by simp [Value.isStrOf, q]]
          exact j1
    · cases h
/-- at a the dict t of the module -/
structure KTab (X : Cx) (a : Addr) (t : Tab) : Prop where
  ex : ∃ es n, X.K.lookup a = some ⟨.type "dict", none, .dict es n, #[]⟩ ∧ tabB X.w.params es.toList t = true
  sys : (a == sysModules) = false
theorem KTab.of {ad : Addr} {t : Tab} {es : Array DictEntry} {n : Nat} (hl : X.K.lookup ad = some ⟨.type "dict", none, .dict es n, #[]⟩) (hb : tabB X.w.params es.toList t = true) (hs : (ad == sysModules) = false) : KTab X ad t := ⟨⟨es, n, hl, hb⟩, hs⟩
theorem KTab.map {ad : Addr} {t : Tab} {pins : List (Addr × Obj)} {σ : L2.St} {H : Hp} {s : Shared} (k : KTab X ad t) (I : L2.Inv X pins σ H s) : ∃ f : Str → Option Value, s.heap.MapOf (strKind X.prog X.w) ad f ∧ ∀ x, f x = none ∧ tLook t x = none ∨ ∃ y k, f x = some (.str y k) ∧ tLook t x = some y := by
  obtain ⟨es, n, hl, hb⟩ := k.ex
  obtain ⟨h1, h2⟩ := tab_lit hb
  refine ⟨_, PySem.W.mapOf_K (prog := X.prog) (w := X.w) I.kIn hl h1, fun x => ?_⟩
  obtain ⟨l⟩ := es
  have := h2 x
  unfold findBy
  rw [List.find?_toArray]
  exact this
theorem ix_ktab {ad : Addr} {t : Tab} (k : KTab X ad t) : IxR X (fun x y H Q => ∃ z w, x = .ref ad ∧ y = .str z ∧ tLook t z = some w ∧ Q (.str w) H) := by
  rintro value slice pins s σ H _ _ v u Q I rx ry ⟨z, w, rfl, rfl, hl, q⟩ hs
  obtain rfl : v = Value.ref ad := rx
  obtain ⟨tk, rfl⟩ := ry
  obtain ⟨f, hm, hf⟩ := k.map I
  rcases hf z with ⟨_, g⟩ | ⟨y, kk, g1, g2⟩
  · rw [hl] at g; cases g
  · rw [hl] at g2; cases g2
    exact tail_any hm.typeIs slot_dict_getitem.lookup (wpAny_getItem_of (strKind_is X.prog X.w z tk) hm g1 ⟨.str w, H, I.tok _, ⟨_, rfl⟩, q⟩) hs
def tsOf : D → Option Str
  | .str x => some x
  | _ => none
theorem tsOf_of {d : D} {x : Str} (h : tsOf d = some x) : d = .str x := by
  unfold tsOf at h
  split at h
  · cases h; rfl
  · cases h
/-- what is looked at is a text -/
def onT (r : Rho) (x : R) (K : Str → Prop) : Prop := onO (look r x) fun d => onO (tsOf d) K
theorem onT.ex {r : Rho} {x : R} {K : Str → Prop} (h : onT r x K) : ∃ z, look r x = some (.str z) ∧ K z := by
  obtain ⟨d, e1, h1⟩ := onO.ex h
  obtain ⟨z, e2, h2⟩ := onO.ex h1
  cases tsOf_of e2
  exact ⟨z, e1, h2⟩
def mKix (t : Tab) (mb : ME) : ME := fun r P => mb r fun y r1 => onT r1 y.tmp fun z => onO (tLook t z) fun w => P (.val (.str w)) r1
theorem de_kix {ad : Addr} {t : Tab} (hg : Gl X x) (hm : X.mg x = some (.ref ad)) (k : KTab X ad t) (hb : DE X b mb) (hs : PlainIx b := by intro _ _; rfl) (hd : (x == ("__debug__" : Str)) = false := by decide) : DE X (.Subscript (.Name x p) b pos) (mKix t mb) := fun e =>
  PE.imp (pe_ix (ix_ktab k) (pe_glob (v := .ref ad) hg hm rfl hd) (hb.tmp e) hs) fun s H Q ⟨F, r, ko, P, hm, hP⟩ => ⟨F, r, ko, fun y r1 => onT r1 y fun z => onO (tLook t z) fun w => P (.val (.str w)) r1, hm, by
    intro y r1 v F1 H1 hx k1 q1 t1
    obtain ⟨z, el, hx2⟩ := onT.ex hx
    obtain ⟨w, et, hp⟩ := onO.ex hx2
    exact ⟨z, w, rfl, (t1.look k1 el).str, et, hP _ r1 _ F1 H1 hp k1 q1 (.val (.str w))⟩⟩
end
end DL
namespace DL
open PySem L2 PyProof.Rows
def kOf : D → Option Key
  | .int i => some (.inl i)
  | .str x => some (.inr x)
  | _ => none
theorem kOf_kD (k : Key) : kOf (kD k) = some k := by cases k <;> rfl
theorem kOf_some {d : D} {k : Key} (h : kOf d = some k) : d = kD k := by
  cases d <;> simp [kOf] at h <;> subst h <;> rfl
theorem Rp.key {K : Fg} {F : Hp} {v : V} {k : Key} (h : Rp K F v (kD k)) : v = kV k := by
  cases k with
  | inl i => cases h; rfl
  | inr i => cases h; rfl
theorem Lk.key {K : Fg} {F H : Hp} {v : V} {d : D} {k : Key} (h : Lk K F H v d) (e : kOf d = some k) : v = kV k := by
  cases kOf_some e
  cases k with
  | inl i => exact h.int
  | inr i => exact h.str
def dGet (kvs : List (D × D)) (k : Key) : Option D := (kvs.find? fun p => decide (kOf p.1 = some k)).map (·.2)
def keyed (kvs : List (D × D)) : Bool := kvs.all fun p => (kOf p.1).isSome
theorem val_get {K : Fg} {F : Hp} {k : Key} : ∀ {kvs : List (Key × V)} {ds : List (D × D)}, ds.map (·.1) = kvs.map (fun p => kD p.1) → RpA K F (kvs.map (·.2)) (ds.map (·.2)) →
    (valV kvs k = none ∧ dGet ds k = none) ∨ ∃ v d, valV kvs k = some v ∧ dGet ds k = some d ∧ Rp K F v d
  | [], [], _, _ => .inl ⟨rfl, rfl⟩
  | [], _ :: _, e, _ => by cases e
  | _ :: _, [], e, _ => by cases e
  | (k0, v0) :: kvs, (dk, dv) :: ds, e, r => by
    simp only [List.map_cons, List.cons.injEq] at e
    cases r with | cons r1 r2 =>
    obtain ⟨e1, e2⟩ := e
    simp only at e1 r1
    subst e1
    by_cases q : k0 = k
    · subst q
      exact .inr ⟨v0, dv, valV_pos rfl, by simp [dGet, List.find?_cons, kOf_kD], r1⟩
    · have := val_get (k := k) e2 r2
      rw [valV_neg (show ¬ (k0, v0).1 = k from q)]
      have hh : dGet ((kD k0, dv) :: ds) k = dGet ds k := by simp [dGet, List.find?_cons, kOf_kD, q]
      rw [hh]
      exact this
/-- a dict with plain keys, seen -/
theorem Lk.dk {K : Fg} {F H : Hp} {v : V} {ds : List (D × D)} (h : Lk K F H v (.dict ds)) (hs : Sub F H) (hk : keyed ds = true) (hn : ds ≠ []) : ∃ a kvs, v = .ref a ∧ H a = some (.dK kvs) ∧ ds.map (·.1) = kvs.map (fun p => kD p.1) ∧ RpA K F (kvs.map (·.2)) (ds.map (·.2)) := by
  have no : ∀ kvs : List (List Key × V), ds.map (·.1) = kvs.map (fun p => ktD p.1) → False := by
    intro kvs e
    cases ds with
    | nil => exact hn rfl
    | cons d ds =>
      cases kvs with
      | nil => cases e
      | cons p kvs =>
        simp only [List.map_cons, List.cons.injEq] at e
        simp only [keyed, List.all_cons, Bool.and_eq_true] at hk
        rw [e.1] at hk
        simp [ktD, kOf] at hk
  generalize hd : (PyData.dict ds : D) = d at h
  cases h with
  | rp a =>
    subst hd
    cases a with
    | dct g1 g2 g3 g4 =>
      rcases g1 with ⟨kvs, w1, w2, w3⟩ | ⟨kvs, w1, w2, w3⟩
      · subst w2 w3 g4
        exact ⟨_, kvs, rfl, hs _ _ w1, g3, g2⟩
      · subst w2 w3 g4
        exact (no kvs g3).elim
  | @mo p o m a b =>
    cases b with
    | L _ => cases hd
    | K w1 w2 => cases hd; exact ⟨p, _, rfl, a, w1, w2⟩
    | T w1 w2 => cases hd; exact (no _ w1).elim
section
variable {X : Cx} {a b c : Expr} {ma mb mc : ME} {pos p p' apos : Pos} {x : Str} {i : Nat}
theorem ix_dict (hu : X.A.units + 1 < cLine) : IxR X (fun x y H Q => ∃ a v, x = .ref a ∧ DGet H a y (some v) ∧ Q v H) := by
  rintro value slice pins s σ H _ y v u Q I rx ry ⟨a, w, rfl, hg, q⟩ hs
  obtain rfl : v = Value.ref a := rx
  exact tail_any (dict_typeIs I hg) slot_dict_getitem.lookup (d_getItem hu I hg ry fun w' s' I' r' => ⟨w, H, I', r', q⟩) hs
def fIxD : F2 := fun a b => match a with
  | .dict kvs => if keyed kvs then match kOf b with
    | some k => match dGet kvs k with
      | some d => some (.val d)
      | none => none
    | none => none
    else none
  | _ => none
def fIxA : F2 := orF fIx fIxD
theorem dGet_ne {kvs : List (D × D)} {k : Key} {d : D} (h : dGet kvs k = some d) : kvs ≠ [] := fun e => by subst e; cases h
def kIxA : D → D → (R → Prop) → Prop
  | .list ds, .int i, K => onO (atI ds i) fun d => K (.val d)
  | .tuple ds, .int i, K => onO (atI ds i) fun d => K (.val d)
  | .str x, .int i, K => Rq (x.length ≤ sizeLine) (onO (atI x.cps.toList i) fun c => K (.val (.str ⟨#[c]⟩)))
  | .dict kvs, b, K => rqB (keyed kvs) (onO (kOf b) fun k => onO (dGet kvs k) fun d => K (.val d))
  | _, _, _ => False
def oIxA : OpK := ⟨fIxA, kIxA, fun d1 d2 K h => by
  unfold kIxA at h
  split at h
  · obtain ⟨d, e, q⟩ := onO.ex h
    exact ⟨_, by simp only [fIxA, orF, fIx, e], q⟩
  · obtain ⟨d, e, q⟩ := onO.ex h
    exact ⟨_, by simp only [fIxA, orF, fIx, e], q⟩
  · obtain ⟨c, e, q⟩ := onO.ex (Rq.a h)
    exact ⟨_, by simp only [fIxA, orF, fIx, if_pos (Rq.c h), e], q⟩
  · obtain ⟨h1, h2⟩ := rqB.ex h
    obtain ⟨k, e, q⟩ := onO.ex h2
    obtain ⟨d, e2, q2⟩ := onO.ex q
    exact ⟨_, by simp only [fIxA, orF, fIx, fIxD, h1, if_true, e, e2], q2⟩
  · exact h.elim⟩
theorem de_ixA (hu : X.A.units + 1 < cLine) (ha : DE X a ma) (hb : DE X b mb) (hs : PlainIx b := by intro _ _; rfl) : DE X (.Subscript a b pos) (mOp oIxA ma mb) := fun e =>
  PE.imp (pe_ix (IxR.or (ix_dict hu) (IxR.or ix_list (IxR.or ix_tup ix_str))) (ha.tmp e) (hb.tmp e) hs) fun s H Q h => mOp_read (fun e F r s H v1 v2 d1 d2 z Q k l1 l2 ef w => by
    simp only [oIxA] at ef
    unfold fIxA orF at ef
    split at ef
    · rename_i y hy
      cases ef
      unfold fIx at hy
      split at hy
      · split at hy
        · rename_i hd; cases hy
          obtain ⟨p, xs, e1, h1, r1⟩ := l1.lst k.sub
          obtain ⟨v, g1, g2⟩ := r1.at hd
          exact .inr (.inl ⟨p, xs, _, v, e1, l2.int, .inl h1, g1, w _ F H k (Sub.refl F) (.val g2)⟩)
        · cases hy
      · split at hy
        · rename_i hd; cases hy
          obtain ⟨p, xs, e1, h1, r1, _⟩ := l1.tup k.sub
          obtain ⟨v, g1, g2⟩ := r1.at hd
          exact .inr (.inr (.inl ⟨p, xs, _, v, e1, l2.int, h1, g1, w _ F H k (Sub.refl F) (.val g2)⟩))
        · cases hy
      · split at hy
        · rename_i hz
          split at hy
          · rename_i hd; cases hy
            exact .inr (.inr (.inr ⟨_, _, _, l1.str, l2.int, hz, hd, w _ F H k (Sub.refl F) (.val (.str _))⟩))
          · cases hy
        · cases hy
      · cases hy
    · unfold fIxD at ef
      split at ef
      · split at ef
        · rename_i hk
          split at ef
          · rename_i k0 ek
            split at ef
            · rename_i d ed; cases ef
              obtain ⟨ad, kvs, e1, h1, h2, h3⟩ := l1.dk k.sub hk (dGet_ne ed)
              rcases val_get (k := k0) h2 h3 with ⟨_, n⟩ | ⟨v, d', g1, g2, g3⟩
              · rw [ed] at n; cases n
              · rw [ed] at g2; cases g2
                have ey := l2.key ek
                subst ey
                refine .inl ⟨ad, v, e1, ?_, w _ F H k (Sub.refl F) (.val g3)⟩
                have := DGet.k (k := k0) h1
                rw [g1] at this
                exact this
            · cases ef
          · cases ef
        · cases ef
      · cases ef) h
end
end DL
namespace DL
open PySem L2 PyProof.Rows
abbrev FS := Str → List D → Option R
def SmD (X : Cx) (id : String) (f : FS) : Prop := ∃ rr : V → List V → Hp → VK → Prop, MtR X id rr ∧ ∀ (e : En) (F : Hp) (r : Rho) (s : L2.St) (H : Hp) (x : Str) (vs : List V) (ds : List D) (z : R) (Q : VK),
  Ok X.K e F r s H → LkA X.K F H vs ds → f x ds = some z → (∀ v F' H', Ok X.K e F' r s H' → Sub F F' → RR X.K e F' r s H' z v → Q v H') → rr (.str x) vs H Q
/-- a method of texts and what it does, told so that it runs -/
structure SmK where
  f : FS
  k : Str → List D → (R → Prop) → Prop
  ok : ∀ x ds K, k x ds K → ∃ z, f x ds = some z ∧ K z
def stOf : R → Option Str
  | .val (.str x) => some x
  | _ => none
theorem stOf_of {x : R} {z : Str} (h : stOf x = some z) : x = .val (.str z) := by
  unfold stOf at h
  split at h
  · cases h; rfl
  · cases h
def mSm (o : SmK) (ma : ME) (ms : MA) : ME := fun r P => ma r fun x r1 => onO (stOf x) fun z => ms r1 fun xs r2 => onO (looks r2 xs) fun ds => o.k z ds fun w => P w r2
section
variable {X : Cx} {a b c : Expr} {ma mb mc : ME} {pos p p' apos : Pos} {x : Str} {i : Nat} {es : List Expr} {ms : MA}
theorem de_sm {id : String} {name : Str} {o : SmK} (hm : SmD X id o.f) (slot : Slot "str" name id) (hty : typeOf (.builtin id) = pure (.type "method_descriptor")) (ho : DE X b mb) (ha : DA X (a :: es) ms)
    (hbase : attributeBase b name X.env (eval b X.env) = eval b X.env := by rfl)
    (hfew : ((backTo pos (starEach (a :: es) X.env)).all (fun x => !x.1) && (backToKw pos (keywordEach [] X.env)).all (fun x => x.1.isSome) && decide ((a :: es).length + ([] : List Keyword).length + (if ([] : List Keyword).isEmpty then 0 else 1) < 30)) = true := by rfl)
    (hline : (apos.endLine == pos.line) = true := by rfl) (hs : starEach (a :: es) X.env = (false, eval a X.env) :: starEach es X.env := by rfl) (hplain : (backTo pos (starEach es X.env)).any (·.1) = false := by rfl) : DE X (.Call (.Attribute b name apos) (a :: es) [] pos) (mSm o mb ms) := fun e => by
  obtain ⟨rr, hr, hq⟩ := hm
  refine PE.imp (pe_bm PySem.F.plainAttrs_str slot hty hr (ho e) (ha e) hbase hfew hline hs hplain) fun s H Q ⟨F, r, k, P, hm, hP⟩ => ⟨F, r, k, _, hm, ?_⟩
  intro x r1 v F1 H1 hx1 k1 q1 t1
  obtain ⟨z, ez, hms⟩ := onO.ex hx1
  have e1 := stOf_of ez
  subst e1
  cases t1 with | val t1 =>
  cases t1
  refine ⟨rfl, F1, r1, k1, _, hms, ?_⟩
  intro xs r2 vs F2 H2 hx2 k2 q2 t2
  obtain ⟨ds, el, hx3⟩ := onO.ex hx2
  obtain ⟨w, ef, hp⟩ := o.ok _ _ _ hx3
  exact hq e F2 r2 s H2 z vs ds w Q k2 (t2.looks k2 el) ef fun v F' H' k' q' t' => hP w r2 v F' H' hp k' ((q1.trans q2).trans q') t'
/-- the lengths of a join -/
def joinLen (a : Str) (ys : List Str) : Nat := (ys.map (·.length)).sum + ys.length * a.length
def fJoin : FS := fun x ds => match ds with
  | [d] => match seqD d with
    | some es => match strsOf es with
      | some ys => if joinLen x ys ≤ 16777216 then some (.val (.str (Txt.join x ys))) else none
      | none => none
    | none => none
  | _ => none
theorem smd_join : SmD X "str.join" fJoin := by
  refine ⟨_, mt_join, fun e F r s H x vs ds z Q k l ef w => ?_⟩
  unfold fJoin at ef
  split at ef
  · rename_i d
    split at ef
    · rename_i es' e1
      split at ef
      · rename_i ys e2
        split at ef
        · rename_i hz; cases ef
          cases l with | cons l1 l2 =>
          cases l2
          cases d with
          | list ds =>
            cases e1
            obtain ⟨p, xs, g1, g2, g3⟩ := l1.lst k.sub
            subst g1
            refine ⟨x, p, ys, rfl, rfl, .inl ?_, hz, w _ F H k (Sub.refl F) (.val (.str _))⟩
            rw [← g3.strs e2]
            exact .inl g2
          | tuple ds =>
            cases e1
            obtain ⟨p, xs, g1, g2, g3, _⟩ := l1.tup k.sub
            subst g1
            refine ⟨x, p, ys, rfl, rfl, .inr ?_, hz, w _ F H k (Sub.refl F) (.val (.str _))⟩
            rw [← g3.strs e2]
            exact g2
          | _ => cases e1
        · cases ef
      · cases ef
    · cases ef
  · cases ef
def fSm1 (g : Str → Str → D) : FS := fun x ds => match ds with
  | [.str y] => some (.val (g x y))
  | _ => none
theorem smd_1 {id : String} {g : Str → Str → D} {gv : Str → Str → V} (hm : MtR X id (fun x xs H Q => ∃ a b, x = .str a ∧ xs = [.str b] ∧ Q (gv a b) H)) (hg : ∀ a b F, Rp X.K F (gv a b) (g a b)) : SmD X id (fSm1 g) := by
  refine ⟨_, hm, fun e F r s H x vs ds z Q k l ef w => ?_⟩
  unfold fSm1 at ef
  split at ef
  · rename_i y
    cases ef
    cases l with | cons l1 l2 =>
    cases l2
    have := l1.str
    subst this
    exact ⟨x, y, rfl, rfl, w _ F H k (Sub.refl F) (.val (hg _ _ _))⟩
  · cases ef
def fEnds : FS := fSm1 fun a b => .bool (Txt.endswith a b)
theorem smd_endswith : SmD X "str.endswith" fEnds := smd_1 mt_endswith fun _ _ _ => .bl _
end
def kJoin (x : Str) (ds : List D) (K : R → Prop) : Prop := match ds with
  | [d] => onO (seqD d) fun es => onO (strsOf es) fun ys => Rq (joinLen x ys ≤ 16777216) (K (.val (.str (Txt.join x ys))))
  | _ => False
def jJoin : SmK := ⟨fJoin, kJoin, fun x ds K h => by
  unfold kJoin at h
  split at h
  · obtain ⟨es, e1, h1⟩ := onO.ex h
    obtain ⟨ys, e2, h2⟩ := onO.ex h1
    exact ⟨_, by simp only [fJoin, e1, e2, if_pos (Rq.c h2)], Rq.a h2⟩
  · exact h.elim⟩
def kSm1 (g : Str → Str → D) (x : Str) (ds : List D) (K : R → Prop) : Prop := match ds with
  | [.str y] => K (.val (g x y))
  | _ => False
theorem sm1_ok (g : Str → Str → D) (x : Str) (ds : List D) (K : R → Prop) (h : kSm1 g x ds K) : ∃ z, fSm1 g x ds = some z ∧ K z := by
  unfold kSm1 at h
  split at h
  · exact ⟨_, rfl, h⟩
  · exact h.elim
def jEnds : SmK := ⟨fEnds, kSm1 fun a b => .bool (Txt.endswith a b), sm1_ok _⟩
end DL
namespace DL
open PySem L2 PyProof.Rows
theorem RpA.ofInts {K : Fg} {F : Hp} : ∀ (ns : List Int), RpA K F (ns.map V.int) (ns.map PyData.int)
  | [] => .nil
  | n :: ns => .cons (.int n) (RpA.ofInts ns)
def cutI (ns : List Int) (lo hi : Option Int) : List Int := (ns.drop (HT.sIx ns.length 0 lo)).take (HT.sIx ns.length ns.length hi - HT.sIx ns.length 0 lo)
theorem cutI_D (ns : List Int) (lo hi : Option Int) : cutD (ns.map PyData.int) lo hi = (cutI ns lo hi).map PyData.int := by
  unfold cutD cutI
  rw [List.length_map, List.map_take, List.map_drop]
def scOf : R → Option (List Int)
  | .ob (.scr ns) => some ns
  | _ => none
theorem scOf_of {x : R} {ns : List Int} (h : scOf x = some ns) : x = .scr ns := by
  unfold scOf at h
  split at h
  · cases h; rfl
  · cases h
def mSlS (ma : ME) (ml mh : MO') : ME := fun r P => ma r fun x r1 => ml r1 fun l r2 => mh r2 fun h r3 => onO (scOf x) fun ns => P (.own (.L ((cutI ns l h).map .int))) r3
section
variable {X : Cx} {a b c : Expr} {ma mb mc : ME} {pos p p' apos : Pos} {x : Str} {i : Nat} {es : List Expr} {ms : MA} {lo hi : Option Expr} {ml mh : MO'} {p2 : Pos}
theorem de_sliceS (ha : DE X a ma) (hl : DO X lo ml) (hh : DO X hi mh) : DE X (.Subscript a (.Slice lo hi none p2) pos) (mSlS ma ml mh) := fun e =>
  PE.imp (pe_slice sl_list (ha e) (hl e) (hh e)) fun s H Q ⟨F, r, k, P, hm, hP⟩ => ⟨F, r, k, _, hm, fun x r1 v F1 H1 hx k1 q1 t1 =>
    ⟨F1, r1, k1, _, hx, fun l r2 F2 H2 hx2 k2 q2 => ⟨F2, r2, k2, _, hx2, fun h r3 F3 H3 hx3 k3 q3 => by
      obtain ⟨ns, en, hp⟩ := onO.ex hx3
      have e1 := scOf_of en
      subst e1
      cases t1 with | ob g =>
      cases g with | scr g =>
      have q := (q1.trans q2).trans q3
      refine ⟨_, _, rfl, ((q2.trans q3).trans k3.sub).sqL g, fun p np => hP _ r3 _ F3 _ hp (k3.alloc np) q ?_⟩
      rw [← cutI_D]
      exact .newL k3 np ((RpA.ofInts ns).cut l h)⟩⟩⟩
end
end DL
namespace DL
open PySem L2 PyProof.Rows
section
variable {P : Program} {w : World} {K : Fg} {mg : Str → Option Value} {base : Heap} {x qual : Str} {params : Arguments} {body : List Stmt} {scope : Scope} {dvs : List V} {kws : List (Str × V)} {f : Addr} {fd : FuncData}
/-- a def of the text by its body -/
theorem fnd_def {N ps : List Str} {k : Nat} {m : MS} (F : FunD K x qual params body scope dvs kws f fd) (S : FnScope N ps scope)
    (hbody : ∀ (cdv : Value) (A : Around) (outer : List Env) (s : Shared) (H : Hp) (E : XK), Room k (A.deeper (envOfC qual scope s.heap.objs.size f cdv)) → A.guards = some [] → DSs (cxOf CX0 P w K mg base N qual scope f cdv A outer s H E).nox body m) : FnD P w K mg base (k + 1) f fd ps (ctOf N.length m) := by
  obtain ⟨oc, od, dV, kV, doc, pm, an, cdv, ct, osl, rfl, lk, hcd, _, _⟩ := F.ex
  exact fnd_of lk hcd S fun A outer s H E hr hg => hbody cdv A outer s H E hr hg
end
section
variable {P : Program} {w : World} {K : Fg} {mg mb : Str → Option Value} {k : Nat} {fa a : Addr} {fd : FuncData} {x : Str} {c : Ct} {s1 : Shared} {vs : List Value} {ns : List Int}
/-- one call of the law in a heap that tracks at most the script -/
theorem law_run {H : Hp} (KX : K.In s1.heap) (n1 : s1.heap.Ns mainGlobals mg) (n2 : s1.heap.Ns builtinsNs mb) (n3 : ∀ x : Str, x ≠ "__name__" → mb x = bootBuiltins x) (n4 : s1.heap.NoLimit) (hg : s1.gens = #[])
    (ha : s1.heap.get? a = some { cls := .type "list", data := .seq vs.toArray }) (hr : Room k callerA)
    (F : ∀ base : Heap, K.In base → base.Ns mainGlobals mg → FnD P w K mg base k fa fd [x] c) (hbind : ∀ (s : Shared) (u : Value), BindsTo s fd ⟨[u], []⟩ [(x, u)])
    (hc : c [.scr ns] fun y _ => y = .val (.bool true)) (hO : Only H) (hS : SqL K H a (ns.map V.int)) (hok : HOk P w H s1.heap) (hA : ∀ b, H b ≠ none → b = a) (hK : H a ≠ none → K.lookup a = none) :
    codeAny (model P w) callerA (.call (.ref fa) ⟨[.ref a], []⟩) (fun r s' => r = .ok (.ret (.bool true)) ∧ OldK s1.heap s'.heap ∧ s'.os = s1.os ∧ AllBare s'.gens) s1 := by
  have free : ∀ {b : Addr} {o : Obj} {es : Array DictEntry} {ep : Nat}, s1.heap.get? b = some o → o.data = .dict es ep → H b = none := by
    intro b o es ep e d
    by_cases q : H b = none
    · exact q
    · cases hA b q
      rw [ha] at e; cases e; cases d
  have ns' : ∀ {b : Addr} {m : Str → Option Value}, s1.heap.Ns b m → (hidT s1.heap H).Ns b m := by
    rintro b m ⟨o, es, ep, e, d, r⟩
    exact ⟨o, es, ep, hidT_get e (free e d), d, r⟩
  have kin : K.In (hidT s1.heap H) := by
    intro b o e
    refine hidT_get (KX b o e) ?_
    by_cases q : H b = none
    · exact q
    · cases hA b q
      rw [hK q] at e; cases e
  obtain ⟨mc, l1, l2⟩ := n4
  have md : Mod K mg (hidT s1.heap H) := ⟨kin, ns' n1, ⟨mb, ns' n2, n3⟩, mc, ns' l1, l2⟩
  have ev : Env0 P w K mg (hidT s1.heap H) callerA [] s1 H := ⟨rfl, md, fun b o e => of_hidT e, Nat.le_of_eq (hidT_size _ _), trivial, fun b z => (by cases z), hok, .of_eq hg⟩
  have got := (F _ kin (ns' n1)).run callerA [] s1 H ⟨[.ref a], []⟩ [.ref a] [.ref a] (fun v _ => v = .bl true) (fun _ _ _ => False) hr rfl ev (hbind s1 (.ref a)) (.cons rfl .nil)
    ⟨H, [.scr ns], rfl, Sub.refl H, .cons (.ob (.scr hS)) .nil, ⟨fun i p m z => (by cases i <;> simp at z), fun i j p m m' z => (by cases i <;> simp at z)⟩, _, hc, fun y as' v F' H' e1 did re => by
      subst e1
      cases re with | val rp => cases rp; rfl⟩
  refine codeAny_mono got fun r s' h => ?_
  match r, h with
  | .error e, h => exact h.elim
  | .ok .next, h => exact h.elim
  | .ok .brk, h => exact h.elim
  | .ok .cont, h => exact h.elim
  | .ok (.ret u), ⟨v, H', os, bare, un, hok', rv, q⟩ =>
    have q' : v = .bl true := q
    subst q'
    obtain rfl : u = Value.bool true := rv
    refine ⟨rfl, OldK.of_keep fun b o e => ?_, os, bare⟩
    rcases hO b with z | ⟨ob, xs, z⟩
    · exact un.keep b o e z (fun y => by cases y) (fun y => by cases y)
    · have e1 := (hok b _ z).1
      rw [e] at e1; cases e1
      exact (hok' b _ (un.frzs b _ _ z)).1
theorem law_end (KX : K.In s1.heap) (n1 : s1.heap.Ns mainGlobals mg) (n2 : s1.heap.Ns builtinsNs mb) (n3 : ∀ x : Str, x ≠ "__name__" → mb x = bootBuiltins x) (n4 : s1.heap.NoLimit) (hg : s1.gens = #[])
    (ha : s1.heap.get? a = some { cls := .type "list", data := .seq vs.toArray }) (hi : IntsAre vs ns) (hl : ns.length ≤ sizeLine) (hr : Room k callerA)
    (F : ∀ base : Heap, K.In base → base.Ns mainGlobals mg → FnD P w K mg base k fa fd [x] c) (hbind : ∀ (s : Shared) (u : Value), BindsTo s fd ⟨[u], []⟩ [(x, u)])
    (hc : c [.scr ns] fun y _ => y = .val (.bool true)) :
    codeAny (model P w) callerA (.call (.ref fa) ⟨[.ref a], []⟩) (fun r s' => r = .ok (.ret (.bool true)) ∧ OldK s1.heap s'.heap ∧ s'.os = s1.os ∧ AllBare s'.gens) s1 := by
  have go := fun {H : Hp} => law_run (H := H) KX n1 n2 n3 n4 hg ha hr F hbind hc
  have rv := vals_ints hi
  have len := hi.length
  cases hk : K.lookup a with
  | some o =>
    have e := KX a o hk
    rw [ha] at e; cases e
    refine go (H := fun _ => none) (fun _ => .inl rfl) (.inr ⟨_, vs.toArray, _, hk, rfl, rfl, rfl, ?_, rv⟩) (fun b u z => by cases z) (fun b z => (z rfl).elim) fun z => (z rfl).elim
    rw [List.size_toArray, len]; exact hl
  | none =>
    refine go (H := upd (fun _ => none) a (.frz { cls := .type "list", data := .seq vs.toArray } (.lst (ns.map V.int)))) (fun b => ?_) (.inl (.inr ⟨_, upd_same⟩)) (fun b u z => ?_) (fun b z => ?_) fun _ => hk
    · by_cases q : b = a
      · subst q; exact .inr ⟨_, _, upd_same⟩
      · exact .inl (upd_ne q)
    · by_cases q : b = a
      · subst q
        rw [upd_same] at z
        cases z
        exact ⟨ha, by rw [List.length_map]; exact hl, vs, _, rv, ha⟩
      · rw [upd_ne q] at z; cases z
    · by_cases q : b = a
      · exact q
      · exact absurd (upd_ne q) z
end
theorem walk_d {l : PySem.W.OpenLaw} {n k : Nat} {q : Program} {loose : List Str} {XP : (Str → Option Value) → Heap → Prop} {YP : World → Heap → Prop} {d : DefRec} {x : Str}
    (hn : l.most = some n) (hn2 : n ≤ sizeLine) (hdf : d.params.defaults = []) (hr : Room k callerA)
    (F : ∀ (w : World) (mg : Str → Option Value) (fa : Addr) (h : Heap), YP w h → h.Ns mainGlobals mg → mg d.name = some (.ref fa) →
      ∃ (K : Fg) (fd : FuncData) (c : Ct), K.In h ∧ (∀ (s : Shared) (u : Value), BindsTo s fd ⟨[u], []⟩ [(x, u)]) ∧ (∀ ns : List Int, ns.length ≤ n → c [.scr ns] fun y _ => y = .val (.bool true)) ∧
        ∀ base : Heap, K.In base → base.Ns mainGlobals mg → FnD l.prog w K mg base k fa fd [x] c) :
    PySem.W.WalkO q loose XP YP l.row.toRowW d [] (fun f vs => PySem.call f vs) := by
  refine Att.attach_call hn hdf fun w s0 s1 mg mb fa o pm cd doc a vs ns G Y ho hd hcd hmg hobj hints hlen hg => ?_
  obtain ⟨K, fd, c, KX, hb, hc, hF⟩ := F w mg fa _ Y G.T.g hmg
  exact law_end KX G.T.g G.T.b G.T.builtins G.T.nolimit hg hobj hints (Nat.le_trans hlen hn2) hr hF hb (hc ns hlen)
end DL
namespace DL
open PySem L2 PyProof.Rows
theorem u66 {k : Nat} {A : Around} (r : Room k A) : A.units + 66 < cLine := by have := r.un; omega
theorem u65 {k : Nat} {A : Around} (r : Room k A) : A.units + 65 < cLine := by have := r.un; omega
theorem u64 {k : Nat} {A : Around} (r : Room k A) : A.units + 64 < cLine := by have := r.un; omega
theorem u1 {k : Nat} {A : Around} (r : Room k A) : A.units + 1 < cLine := by have := r.un; omega
/-- the module's name x is the datum d -/
def Con (K : Fg) (mg : Str → Option Value) (x : Str) (d : D) : Prop := ∃ u n, mg x = some u ∧ rpB K n u d = true
/-- the module's name x is the table t -/
def TabAt (w : World) (K : Fg) (mg : Str → Option Value) (x : Str) (t : Tab) : Prop := ∃ a es n, mg x = some (.ref a) ∧ K.lookup a = some ⟨.type "dict", none, .dict es n, #[]⟩ ∧ tabB w.params es.toList t = true ∧ (a == sysModules) = false
/-- the module's name x is a def that keeps the contract c -/
structure Def (P : Program) (w : World) (K : Fg) (mg : Str → Option Value) (base : Heap) (k : Nat) (x : Str) (n : Nat) (ks : List Str) (G : List R → List R → List R) (c : Ct) : Prop where
  ex : ∃ f fd ps, mg x = some (.ref f) ∧ PySem.W.keepIn K (.ref f) = true ∧ FnD P w K mg base k f fd ps c ∧ Bd K fd ps n ks G
section
variable {X : Cx} {a b c : Expr} {ma mb mc : ME} {pos p p' apos : Pos} {x : Str} {i : Nat} {es : List Expr} {ms mk : MA} {kws : List Keyword} {k n : Nat} {ks : List Str} {G : List R → List R → List R} {ct : Ct} {t : Tab}
theorem de_con {d : D} (h : Con X.K X.mg x d) (hg : Gl X x) (hd : (x == ("__debug__" : Str)) = false := by decide) : DE X (.Name x pos) (mVal d) := by
  obtain ⟨u, n, h1, h2⟩ := h
  exact de_glob n hg h1 h2 hd
theorem de_tix (h : TabAt X.w X.K X.mg x t) (hg : Gl X x) (hb : DE X b mb) (hs : PlainIx b := by intro _ _; rfl) (hd : (x == ("__debug__" : Str)) = false := by decide) : DE X (.Subscript (.Name x p) b pos) (mKix t mb) := by
  obtain ⟨ad, es, n, h1, h2, h3, h4⟩ := h
  exact de_kix hg h1 (.of h2 h3 h4) hb hs hd
theorem de_def (h : Def X.prog X.w X.K X.mg X.base k x n [] G ct) (hr : Room k X.A) (hgu : X.A.guards = some []) (hg : Gl X x)
    (ha : DA X (a :: es) ms) (hdb : (x == ("__debug__" : Str)) = false := by decide) (he : starEach (a :: es) X.env = (false, eval a X.env) :: starEach es X.env := by rfl) (hpl : (backTo pos (starEach es X.env)).any (·.1) = false := by rfl) :
    DE X (.Call (.Name x p) (a :: es) [] pos) (mFnK ct G n 0 ms aNil) := by
  obtain ⟨f, fd, ps, h1, h2, h3, h4⟩ := h.ex
  exact de_fn h3 hr hgu hg h1 h2 h4 ha hdb he hpl
theorem de_def0 (h : Def X.prog X.w X.K X.mg X.base k x 0 [] G ct) (hr : Room k X.A) (hgu : X.A.guards = some []) (hg : Gl X x) (hdb : (x == ("__debug__" : Str)) = false := by decide) : DE X (.Call (.Name x p) [] [] pos) (mFnK ct G 0 0 aNil aNil) := by
  obtain ⟨f, fd, ps, h1, h2, h3, h4⟩ := h.ex
  exact de_fn0 h3 hr hgu hg h1 h2 h4 hdb
theorem de_defK0 (h : Def X.prog X.w X.K X.mg X.base k x 0 ks G ct) (hr : Room k X.A) (hgu : X.A.guards = some []) (hg : Gl X x)
    (hkw : TAk X kws mk) (hall : (backToKw pos (keywordEach kws X.env)).all (·.1.isSome) = true := by rfl) (hks : (backToKw pos (keywordEach kws X.env)).filterMap (·.1) = ks := by rfl)
    (hdb : (x == ("__debug__" : Str)) = false := by decide)
    (hpl : ((backTo pos (starEach [] X.env)).any (·.1) || (backToKw pos (keywordEach kws X.env)).any (·.1.isNone)) = false := by rfl) : DE X (.Call (.Name x p) [] kws pos) (mFnK ct G 0 ks.length aNil mk) := by
  obtain ⟨f, fd, ps, h1, h2, h3, h4⟩ := h.ex
  exact de_fnK0 h3 hr hgu hg h1 h2 h4 hkw hall hks hdb hpl
end
def conB (K : Fg) (c : Str × D) : Bool := match PySem.W.nsIn K mainGlobals c.1 with
  | some (some u) => rpB K 40 u c.2
  | _ => false
def entV (e : DictEntry) : Option (Str × Int × Str) := match e.key, e.val with
  | .str x _, .str y _ => some (x, e.hash, y)
  | _, _ => none
def tabV (K : Fg) (x : Str) : Option (List (Option (Str × Int × Str))) := match PySem.W.nsIn K mainGlobals x with
  | some (some (.ref a)) => match K.lookup a with
    | some ⟨.type c, none, .dict es _, sl⟩ => (match decide (c = "dict") && (sl.isEmpty && !(a == sysModules)) with
      | true => some (es.toList.map entV)
      | false => none)
    | _ => none
  | _ => none
def tabW (P : Params) (t : Tab) : List (Option (Str × Int × Str)) := t.map fun p => some (p.1, PyData.keyHash P p.1, p.2)
theorem tabB_of {P : Params} : ∀ {es : List DictEntry} {t : Tab}, es.map entV = tabW P t → tabB P es t = true
  | [], [], _ => by rfl
  | [], _ :: _, h => by cases h
  | _ :: _, [], h => by cases h
  | e :: es, p :: t, h => by
    have h1 : entV e :: es.map entV = some (p.1, PyData.keyHash P p.1, p.2) :: tabW P t := h
    injection h1 with h2 h3
    have ih := tabB_of h3
    obtain ⟨hh, kk, vv⟩ := e
    obtain ⟨x, y⟩ := p
    unfold entV at h2
    split at h2
    · rename_i a ta b tb e1 e2
      simp only at e1 e2
      subst e1 e2
      have h4 := Option.some.inj h2
      simp only [Prod.mk.injEq] at h4
      obtain ⟨q1, q2, q3⟩ := h4
      subst q1 q2 q3
      unfold tabB
      simp [ih]
    · cases h2
abbrev AlX : Type := He.AlD × Bool × List (Option (List (Option (Str × Int × Str))))
def obsX (fa : List He.Fa) (fn : List He.DefD) (cs : List (Str × D)) (ts : List (Str × Tab)) (K : Fg) : AlX := (He.obsD fa fn K, cs.all (conB K), ts.map fun t => tabV K t.1)
def valX (fn : List He.DefD) (ts : List (Str × Tab)) (w : World) : AlX := (He.valD fn, true, ts.map fun t => some (tabW w.params t.2))
def SaysX (fa : List He.Fa) (fn : List He.DefD) (cs : List (Str × D)) (ts : List (Str × Tab)) (w : World) (K : Fg) : Prop := obsX fa fn cs ts K = valX fn ts w
section
variable {fa : List He.Fa} {fn : List He.DefD} {cs : List (Str × D)} {ts : List (Str × Tab)} {w : World} {K : Fg} {h : Heap} {mg : Str → Option Value}
theorem SaysX.defs (c : SaysX fa fn cs ts w K) : He.SaysD fa fn K := congrArg (fun z : AlX => z.1) c
theorem SaysX.con (c : SaysX fa fn cs ts w K) (X : K.In h) (G : h.Ns mainGlobals mg) (i : Nat) {x : Str} {d : D} (e : cs[i]? = some (x, d) := by rfl) : Con K mg x d := by
  have c1 : cs.all (conB K) = true := congrArg (fun z : AlX => z.2.1) c
  have c2 := List.all_eq_true.mp c1 _ (List.mem_of_getElem? e)
  unfold conB at c2
  split at c2
  · rename_i u hu
    exact ⟨u, 40, PySem.W.mg_of X G hu, c2⟩
  · cases c2
theorem SaysX.tab (c : SaysX fa fn cs ts w K) (X : K.In h) (G : h.Ns mainGlobals mg) (i : Nat) {x : Str} {t : Tab} (e : ts[i]? = some (x, t) := by rfl) : TabAt w K mg x t := by
  have c1 : ts.map (fun t => tabV K t.1) = ts.map fun t => some (tabW w.params t.2) := congrArg (fun z : AlX => z.2.2) c
  have c2 : tabV K x = some (tabW w.params t) := by
    have a1 : (ts.map (fun t => tabV K t.1))[i]? = some (tabV K x) := by rw [List.getElem?_map, e]; rfl
    have a2 : (ts.map fun t => some (tabW w.params t.2))[i]? = some (some (tabW w.params t)) := by rw [List.getElem?_map, e]; rfl
    rw [c1, a2] at a1
    exact (Option.some.inj a1).symm
  unfold tabV at c2
  split at c2
  · rename_i a ha
    split at c2
    · rename_i cc es n sl hl
      split at c2
      · rename_i hq
        simp only [Bool.and_eq_true, decide_eq_true_eq] at hq
        obtain ⟨q1, q2, q3⟩ := hq
        have e2 : sl = #[] := Array.isEmpty_iff.mp q2
        subst q1 e2
        refine ⟨a, es, n, PySem.W.mg_of X G ha, hl, tabB_of (Option.some.inj c2), ?_⟩
        simpa using q3
      · cases c2
    · cases c2
  · cases c2
end
end DL
namespace DL
open PySem L2 PyProof.Rows
/-- values by places (false) and by names (true), put in order -/
def pick {α : Type} (ix : List (Bool × Nat)) (us ws : List α) : List α := match ix with
  | [] => []
  | p :: ix => match (if p.1 = true then ws[p.2]? else us[p.2]?) with
    | some u => u :: pick ix us ws
    | none => pick ix us ws
def ixOk (n m : Nat) (ix : List (Bool × Nat)) : Bool := ix.all fun p => if p.1 = true then decide (p.2 < m) else decide (p.2 < n)
theorem pick_length {α : Type} {us ws : List α} : ∀ {ix : List (Bool × Nat)}, ixOk us.length ws.length ix = true → (pick ix us ws).length = ix.length
  | [], _ => rfl
  | p :: ix, h => by
    simp only [ixOk, List.all_cons, Bool.and_eq_true] at h
    have ih := pick_length (us := us) (ws := ws) (ix := ix) (by simpa [ixOk] using h.2)
    obtain ⟨b, i⟩ := p
    cases b with
    | true =>
      have hi : i < ws.length := by simpa using h.1
      simp [pick, List.getElem?_eq_getElem hi, ih]
    | false =>
      have hi : i < us.length := by simpa using h.1
      simp [pick, List.getElem?_eq_getElem hi, ih]
theorem vals_none {vs : List V} {us : List Value} {i : Nat} (r : Vals vs us) (h : vs[i]? = none) : us[i]? = none := by
  rw [List.getElem?_eq_none_iff] at h ⊢
  rw [← r.length]; exact h
theorem pick_vals {vs zs : List V} {us ws : List Value} (r : Vals vs us) (q : Vals zs ws) : ∀ ix : List (Bool × Nat), Vals (pick ix vs zs) (pick ix us ws)
  | [] => .nil
  | p :: ix => by
    have ih := pick_vals r q ix
    obtain ⟨b, i⟩ := p
    cases b with
    | true =>
      cases e : zs[i]? with
      | none => simp [pick, e, vals_none q e, ih]
      | some z =>
        obtain ⟨u, e2, ru⟩ := q.get e
        simp only [pick, if_pos, e, e2]
        exact .cons ru ih
    | false =>
      cases e : vs[i]? with
      | none => simp [pick, e, vals_none r e, ih]
      | some z =>
        obtain ⟨u, e2, ru⟩ := r.get e
        simp only [pick, Bool.false_eq_true, if_false, e, e2]
        exact .cons ru ih
theorem rts_get {K : Fg} {F : Hp} {s : L2.St} {xs : List R} {vs : List V} (t : RTs K F s xs vs) (i : Nat) : (xs[i]? = none ∧ vs[i]? = none) ∨ ∃ x v, xs[i]? = some x ∧ vs[i]? = some v ∧ RT K F s x v := by
  induction t generalizing i with
  | nil => exact .inl ⟨by simp, by simp⟩
  | cons a _ ih =>
    cases i with
    | zero => exact .inr ⟨_, _, rfl, rfl, a⟩
    | succ i => simpa using ih i
theorem pick_rts {K : Fg} {F : Hp} {s : L2.St} {xs zs : List R} {vs ws : List V} (t : RTs K F s xs vs) (q : RTs K F s zs ws) : ∀ ix : List (Bool × Nat), RTs K F s (pick ix xs zs) (pick ix vs ws)
  | [] => .nil
  | p :: ix => by
    have ih := pick_rts t q ix
    obtain ⟨b, i⟩ := p
    cases b with
    | true =>
      rcases rts_get q i with ⟨e1, e2⟩ | ⟨x, v, e1, e2, r⟩
      · simp [pick, e1, e2, ih]
      · simp only [pick, if_pos, e1, e2]
        exact .cons r ih
    | false =>
      rcases rts_get t i with ⟨e1, e2⟩ | ⟨x, v, e1, e2, r⟩
      · simp [pick, e1, e2, ih]
      · simp only [pick, Bool.false_eq_true, if_false, e1, e2]
        exact .cons r ih
section
variable {K : Fg} {x qual : Str} {params : Arguments} {body : List Stmt} {scope : Scope} {dvs : List V} {kws : List (Str × V)} {f : Addr} {fd : FuncData} {ps : List Str}
/-- every parameter is written, by place or by name; no defaults but keyword-only ones -/
theorem Bd.pick (F : FunD K x qual params body scope [] kws f fd) (n : Nat) (ks : List Str) (ix : List (Bool × Nat)) (hl : ix.length = ps.length) (ho : ixOk n ks.length ix = true)
    (h : ∀ (kV doc pm : Value) (an : Option Addr) (cdv ct : Value) (us ws : List Value), us.length = n → ws.length = ks.length → bindArgs (PySem.W.fnOf x qual params body scope .none kV doc pm an cdv ct) ⟨us, ks.zip ws⟩ = pure (ps.zip (DL.pick ix us ws))) : Bd K fd ps n ks (DL.pick ix) := by
  obtain ⟨oc, od, dV, kV, doc, pm, an, cdv, ct, osl, rfl, lk, hcd, hD, hK⟩ := F.ex
  rcases hD with ⟨_, rfl⟩ | ⟨e, _⟩
  · exact ⟨fun us ws => DL.pick ix us ws, fun vs zs => DL.pick ix vs zs, ⟨fun s us ws X l1 l2 => .of_eq (h kV doc pm an cdv ct us ws l1 l2), fun r q => pick_vals r q ix⟩, fun vs zs l1 l2 => by rw [pick_length (by rw [l1, l2]; exact ho), hl], fun F s xs vs zs ws t q _ _ => pick_rts t q ix⟩
  · exact absurd rfl e
end
theorem Def.of {P : Program} {w : World} {K : Fg} {mg : Str → Option Value} {base : Heap} {k n : Nat} {x : Str} {ks : List Str} {G : List R → List R → List R} {c : Ct} {f : Addr} {fd : FuncData} {ps : List Str} (hm : mg x = some (.ref f)) (hk : PySem.W.keepIn K (.ref f) = true) (F : FnD P w K mg base k f fd ps c) (hb : Bd K fd ps n ks G) : Def P w K mg base k x n ks G c := ⟨⟨f, fd, ps, hm, hk, F, hb⟩⟩
end DL
namespace DL
open PySem L2 PyProof.Rows
theorem br_b {b : Bool} {A B : Prop} (h : b = true → A) (g : b = false → B) : brK b A B := by
  cases b with
  | true => exact h rfl
  | false => exact g rfl
theorem br_d {A B p : Prop} [Decidable p] (h : p → A) (g : ¬ p → B) : brK (decide p) A B := br_b (fun e => h (of_decide_eq_true e)) fun e => g (of_decide_eq_false e)
theorem br_nd {A B p : Prop} [Decidable p] (h : ¬ p → A) (g : p → B) : brK (!decide p) A B := br_b (fun e => h (by simpa using e)) fun e => g (by simpa using e)
theorem on_i {α : Type} {o : Option α} {K : α → Prop} {a : α} (e : o = some a) (h : K a) : onO o K := by subst e; exact h
theorem brT {b : Bool} {A B : Prop} (e : b = true) (h : A) : brK b A B := by subst e; exact h
theorem loop_by {g : GT} {body : MS} {O : Out} (I : List D → Rho → Prop) (h : ∀ d ds r, I (d :: ds) r → (∀ r', I ds r' → loopM g body ds r' O) → loopM g body (d :: ds) r O) (h0 : ∀ r, I [] r → O.nx r) : ∀ ds r, I ds r → loopM g body ds r O
  | [], r, q => h0 r q
  | d :: ds, r, q => h d ds r q fun r' q' => loop_by I h h0 ds r' q'
theorem lc_by {vs : List Nat} {g : GT} {tt : MT} {te : ME} {P : List D → Rho → Prop} (I : List D → List D → Rho → Prop) (h : ∀ d ds acc r, I (d :: ds) acc r → (∀ acc' r', I ds acc' r' → lcM vs g tt te P ds acc' r') → lcM vs g tt te P (d :: ds) acc r) (h0 : ∀ acc r, I [] acc r → P acc r) : ∀ ds acc r, I ds acc r → lcM vs g tt te P ds acc r
  | [], acc, r, q => h0 acc r q
  | d :: ds, acc, r, q => h d ds acc r q fun acc' r' q' => lc_by I h h0 ds acc' r' q'
theorem shaped_ints (cs : List Int) : SeqAt.shaped (.list (cs.map PyData.int)) = true := by
  have h1 : ∀ cs : List Int, PyData.canLayAll0 (cs.map PyData.int) = true := fun cs => by
    induction cs with
    | nil => rfl
    | cons c cs ih => simp [PyData.canLayAll0, PyData.canLay0, ih]
  have h2 : ∀ cs : List Int, PyData.depthAll (cs.map PyData.int) = 0 := fun cs => by
    induction cs with
    | nil => rfl
    | cons c cs ih => simp [PyData.depthAll, PyData.depth, ih]
  simp [SeqAt.shaped, PyData.canLay0, PyData.depth, h1, h2]
theorem at_ints (cs : List Int) {i : Int} (h0 : 0 ≤ i) (h1 : i < cs.length) : ∃ c, atI (cs.map PyData.int) i = some (.int c) := by
  have hl : i.toNat < cs.length := by omega
  refine ⟨cs[i.toNat], ?_⟩
  unfold atI ixN
  rw [List.length_map, if_pos h0, if_pos h1]
  simp [hl]
theorem mul_bd {a b A B : Int} (h1 : 0 ≤ a) (h2 : a ≤ A) (h3 : 0 ≤ b) (h4 : b ≤ B) : 0 ≤ a * b ∧ a * b ≤ A * B := ⟨Int.mul_nonneg h1 h3, Int.mul_le_mul h2 h4 h3 (by omega)⟩
theorem at_lt {α : Type} {ds : List α} {v : Int} (h0 : 0 ≤ v) (h1 : v < ds.length) : ∃ d, atI ds v = some d ∧ d ∈ ds := by
  have hl : v.toNat < ds.length := by omega
  refine ⟨ds[v.toNat], ?_, List.getElem_mem hl⟩
  unfold atI ixN
  rw [if_pos h0, if_pos h1]
  simp [hl]
theorem at_all {α : Type} {ds : List α} {v : Int} (p : α → Prop) (h0 : 0 ≤ v) (h1 : v < ds.length) (h : ∀ d ∈ ds, p d) : ∃ d, atI ds v = some d ∧ p d := by
  obtain ⟨d, e, m⟩ := at_lt h0 h1
  exact ⟨d, e, h d m⟩
theorem okR_of {i : Int} (h1 : -1000000000000000000 ≤ i) (h2 : i ≤ 1000000000000000000) : okR i = true := Nat.ble_eq_true_of_le (by omega)
end DL
namespace DL
open PySem L2 PyProof.Rows
def okS (x : Str) : Prop := ∀ c ∈ x.cps.toList, c < 1114112
theorem okS.ok {x : Str} (h : okS x) : PyData.strOk x = true := by
  unfold PyData.strOk
  rw [Array.all_eq_true']
  intro c hc
  exact decide_eq_true (h c (Array.mem_toList_iff.mpr hc))
theorem sum_le {xs : List Str} {m : Nat} (h : ∀ x ∈ xs, x.length ≤ m) : (xs.map (·.length)).sum ≤ xs.length * m := by
  induction xs with
  | nil => simp
  | cons x xs ih =>
    have h1 := h x List.mem_cons_self
    have h2 := ih fun y hy => h y (List.mem_cons_of_mem _ hy)
    simp only [List.map_cons, List.sum_cons, List.length_cons, Nat.succ_mul]
    omega
theorem joinLen_le {a : Str} {xs : List Str} {m : Nat} (h : ∀ x ∈ xs, x.length ≤ m) : joinLen a xs ≤ xs.length * (m + a.length) := by
  have := sum_le h
  unfold joinLen
  rw [Nat.mul_add]
  omega
/-- of a written text -/
def okSB (x : Str) : Bool := x.cps.all (· < 1114112)
theorem okS_of {x : Str} (h : okSB x = true) : okS x := by
  intro c hc
  unfold okSB at h
  rw [Array.all_eq_true'] at h
  exact of_decide_eq_true (h c (Array.mem_toList_iff.mp hc))
end DL
namespace DL
open PySem L2 PyProof.Rows
inductive W0 | nothing | never
inductive W1 | sign | but | name | again
inductive WM | row | choice
inductive WO | many | maybe | ahead | not
inductive W2 | hold | tag | make
def W0.s : W0 → Str
  | .nothing => "nothing"
  | .never => "never"
def W1.s : W1 → Str
  | .sign => "sign"
  | .but => "but"
  | .name => "name"
  | .again => "again"
def WM.s : WM → Str
  | .row => "row"
  | .choice => "choice"
def WO.s : WO → Str
  | .many => "many"
  | .maybe => "maybe"
  | .ahead => "ahead"
  | .not => "not"
def W2.s : W2 → Str
  | .hold => "hold"
  | .tag => "tag"
  | .make => "make"
inductive Rdr where
  | l0 (w : W0)
  | l1 (w : W1) (x : Str)
  | ps (w : WM) (rs : List Rdr)
  | un (w : WO) (r : Rdr)
  | bi (w : W2) (x : Str) (r : Rdr)
mutual
def Rdr.toD : Rdr → D
  | .l0 w => .tuple [.str w.s]
  | .l1 w x => .tuple [.str w.s, .str x]
  | .ps w rs => .tuple [.str w.s, .tuple (toDs rs)]
  | .un w r => .tuple [.str w.s, r.toD]
  | .bi w x r => .tuple [.str w.s, .str x, r.toD]
def toDs : List Rdr → List D
  | [] => []
  | r :: rs => r.toD :: toDs rs
end
mutual
def Rdr.dep : Rdr → Nat
  | .l0 _ => 1
  | .l1 _ _ => 1
  | .ps _ rs => deps rs + 1
  | .un _ r => r.dep + 1
  | .bi _ _ r => r.dep + 1
def deps : List Rdr → Nat
  | [] => 0
  | r :: rs => max r.dep (deps rs)
end
mutual
/-- how many parts it has -/
def Rdr.cnt : Rdr → Nat
  | .l0 _ => 1
  | .l1 _ _ => 1
  | .ps _ rs => cnts rs + 1
  | .un _ r => r.cnt + 1
  | .bi _ _ r => r.cnt + 1
def cnts : List Rdr → Nat
  | [] => 0
  | r :: rs => r.cnt + cnts rs
end
/-- a text of at most n signs -/
def Tx (n : Nat) (x : Str) : Prop := x.length ≤ n ∧ okS x
theorem Tx.mono {a b : Nat} {x : Str} (h : Tx a x) (q : a ≤ b) : Tx b x := ⟨Nat.le_trans h.1 q, h.2⟩
mutual
def Rdr.good (n : Nat) : Rdr → Prop
  | .l0 _ => True
  | .l1 _ x => Tx n x
  | .ps _ rs => rs.length ≤ 6 ∧ goods n rs
  | .un _ r => r.good n
  | .bi _ x r => Tx n x ∧ r.good n
def goods (n : Nat) : List Rdr → Prop
  | [] => True
  | r :: rs => r.good n ∧ goods n rs
end
theorem toDs_map : ∀ rs : List Rdr, toDs rs = rs.map Rdr.toD
  | [] => rfl
  | r :: rs => by rw [toDs, toDs_map rs, List.map_cons]
theorem deps_le {n : Nat} : ∀ {rs : List Rdr}, deps rs ≤ n ↔ ∀ r ∈ rs, r.dep ≤ n
  | [] => by simp [deps]
  | r :: rs => by simp [deps, Nat.max_le, deps_le (rs := rs)]
theorem cnts_le {n : Nat} : ∀ {rs : List Rdr}, ∀ r ∈ rs, r.cnt ≤ cnts rs
  | [], r, h => by cases h
  | q :: rs, r, h => by
    rw [cnts]
    rcases List.mem_cons.mp h with rfl | h
    · omega
    · have := cnts_le (n := n) (rs := rs) r h; omega
theorem FnD.never {P : Program} {w : World} {K : Fg} {mg : Str → Option Value} {base : Heap} {k : Nat} {f : Addr} {fd : FuncData} {ps : List Str} {c : Ct} (h : ∀ as Q, ¬ c as Q) : FnD P w K mg base k f fd ps c :=
  ⟨fun A outer s H args us vs Q E hr hg he hb hv ⟨G, as, h1, h2, h3, h4, P, h5, h6⟩ => (h _ _ h5).elim⟩
theorem lc_list {vs : List Nat} {g : GT} {tt : MT} {te : ME} {P : List D → Rho → Prop} {r : Rho} {α : Type} (f gv : α → D) {as : List α} (h : ∀ a ∈ as, ∀ ds acc, acc.length < sizeLine → lcM vs g tt te P ds (acc ++ [gv a]) r → lcM vs g tt te P (f a :: ds) acc r)
    (hz : as.length < sizeLine) (hp : P (as.map gv) r) : Lc vs g tt te P (as.map f) [] r := by
  have go : ∀ (bs : List α) (acc : List D), (∀ b ∈ bs, b ∈ as) → acc.length + bs.length < sizeLine → P (acc ++ bs.map gv) r → lcM vs g tt te P (bs.map f) acc r := by
    intro bs
    induction bs with
    | nil => intro acc _ _ q; simpa [lcM] using q
    | cons b bs ih =>
      intro acc hm hl q
      simp only [List.length_cons] at hl
      refine h b (hm b List.mem_cons_self) _ acc (by omega) (ih _ (fun x hx => hm x (List.mem_cons_of_mem _ hx)) ?_ (by simpa using q))
      simp only [List.length_append, List.length_cons, List.length_nil]; omega
  exact ⟨go as [] (fun _ h => h) (by simpa using hz) (by simpa using hp)⟩
theorem strsOf_mapf {α : Type} (f : α → Str) : ∀ as : List α, strsOf (as.map fun a => PyData.str (f a)) = some (as.map f)
  | [] => rfl
  | a :: as => by simp [strsOf, strsOf_mapf f as]
theorem app_list (x y : Str) : (x ++ y).cps.toList = x.cps.toList ++ y.cps.toList := by
  show (x.cps ++ y.cps).toList = _
  simp
theorem app_len (x y : Str) : (x ++ y).length = x.length + y.length := by
  show (x.cps ++ y.cps).size = _
  simp [Str.length]
end DL
namespace DL
open PySem L2 PyProof.Rows
mutual
def wt : D → Nat
  | .none => 5
  | .bool _ => 6
  | .int _ => 60
  | .str x => 10 * x.length + 2
  | .list xs => wts xs + 4
  | .tuple xs => wts xs + 4
  | .dict kvs => wtk kvs + 4
def wts : List D → Nat
  | [] => 0
  | d :: ds => wt d + 2 + wts ds
def wtk : List (D × D) → Nat
  | [] => 0
  | (a, b) :: r => wt a + wt b + 4 + wtk r
end
mutual
/-- texts of signs, ints below 10^10 -/
def okD : D → Prop
  | .none => True
  | .bool _ => True
  | .int i => -100000000000000000000000000000000000000000000000000 < i ∧ i < 100000000000000000000000000000000000000000000000000
  | .str x => okS x
  | .list xs => okDs xs
  | .tuple xs => okDs xs
  | .dict kvs => okDk kvs
def okDs : List D → Prop
  | [] => True
  | d :: ds => okD d ∧ okDs ds
def okDk : List (D × D) → Prop
  | [] => True
  | (a, b) :: r => okD a ∧ okD b ∧ okDk r
end
theorem okDs_iff : ∀ {ds : List D}, okDs ds ↔ ∀ d ∈ ds, okD d
  | [] => by simp [okDs]
  | d :: ds => by simp [okDs, okDs_iff (ds := ds)]
theorem wts_le {n : Nat} : ∀ {ds : List D}, (∀ d ∈ ds, wt d ≤ n) → wts ds ≤ ds.length * (n + 2)
  | [], _ => by simp [wts]
  | d :: ds, h => by
    have h1 := h d List.mem_cons_self
    have h2 := wts_le (n := n) (ds := ds) fun x hx => h x (List.mem_cons_of_mem _ hx)
    rw [wts, List.length_cons, Nat.succ_mul]; omega
theorem int_len {i : Int} (h : -100000000000000000000000000000000000000000000000000 < i ∧ i < 100000000000000000000000000000000000000000000000000) : (toString i : String).length ≤ 51 := by
  have hlt : i.natAbs < 10 ^ 50 := by
    have : (10 : Nat) ^ 50 = 100000000000000000000000000000000000000000000000000 := by decide
    omega
  have e := (Nat.length_repr_le_iff (n := i.natAbs) (by decide : 0 < 50)).mpr hlt
  cases i with
  | ofNat m =>
    have e2 : (toString (Int.ofNat m) : String) = Nat.repr m := rfl
    rw [e2]
    have : m = (Int.ofNat m).natAbs := rfl
    rw [this]; omega
  | negSucc m =>
    have e2 : (toString (Int.negSucc m) : String) = "-" ++ Nat.repr (m + 1) := rfl
    rw [e2, String.length_append]
    have : m + 1 = (Int.negSucc m).natAbs := rfl
    rw [this]
    have : ("-" : String).length = 1 := rfl
    omega
theorem str_len (x : String) : (x : Str).length = x.length := by
  show (Str.ofString x).cps.size = _
  simp [Str.ofString, cpsOfBytes_string, String.length_toList]
theorem joinL (sep : Str) : ∀ ts : List Str, (Str.join sep ts).length ≤ (ts.map fun t => t.length + sep.length).sum
  | [] => Nat.zero_le _
  | [x] => by simp [Str.join]
  | x :: y :: r => by
    have ih := joinL sep (y :: r)
    have e : (Str.join sep (x :: y :: r)).length = x.length + sep.length + (Str.join sep (y :: r)).length := by
      show (x ++ sep ++ Str.join sep (y :: r)).length = _
      rw [app_len, app_len]
    rw [e]
    simp only [List.map_cons, List.sum_cons] at ih ⊢
    omega
theorem textFromL : ∀ (ts : List Str) (k : Nat) (acc : Str), (textFrom k acc ts).length ≤ acc.length + (ts.map fun t => t.length + 2).sum
  | [], k, acc => by show acc.length ≤ _; simp
  | t :: r, k, acc => by
    have ih := textFromL r (k + 1) (acc ++ (if k > 0 then ", " else "" : String) ++ t)
    have e : (textFrom k acc (t :: r)) = textFrom (k + 1) (acc ++ (if k > 0 then ", " else "" : String) ++ t) r := rfl
    rw [e]
    have h2 : ((if k > 0 then ", " else "" : String) : Str).length ≤ 2 := by
      split
      · decide
      · decide
    rw [app_len, app_len] at ih
    simp only [List.map_cons, List.sum_cons]
    omega
mutual
theorem shown_le : ∀ d : D, okD d → d.shown.length ≤ wt d
  | .none, _ => by decide
  | .bool b, _ => by cases b <;> decide
  | .int i, h => by
    have := int_len h
    show ((toString i : String) : Str).length ≤ 60
    rw [str_len]; omega
  | .str x, h => by
    have := StrLaws.reprText_len x fun c hc => Nat.lt_of_lt_of_le (h c hc) (by decide)
    show (reprText x).length ≤ 10 * x.length + 2
    exact this
  | .list xs, h => by
    have := shownAll_le xs h
    show (textFrom 0 "[" (PyData.shownAll xs) ++ ("]" : Str)).length ≤ wts xs + 4
    have t := textFromL (PyData.shownAll xs) 0 ("[" : Str)
    rw [app_len, show (Str.ofString "]").length = 1 from rfl]
    rw [show (Str.ofString "[").length = 1 from rfl] at t
    omega
  | .tuple xs, h => by
    have := shownAll_le xs h
    show (("(" : Str) ++ Str.join ", " (PyData.shownAll xs) ++ (if (PyData.shownAll xs).length == 1 then ",)" else ")" : String)).length ≤ wts xs + 4
    have t := joinL ", " (PyData.shownAll xs)
    have h2 : ((if (PyData.shownAll xs).length == 1 then ",)" else ")" : String) : Str).length ≤ 2 := by
      split
      · decide
      · decide
    rw [app_len, app_len, show (Str.ofString "(").length = 1 from rfl]
    rw [show (Str.ofString ", ").length = 2 from rfl] at t
    omega
  | .dict kvs, h => by
    have := shownKv_le kvs h
    show (("{" : Str) ++ Str.join ", " (PyData.shownKv kvs) ++ ("}" : Str)).length ≤ wtk kvs + 4
    have t := joinL ", " (PyData.shownKv kvs)
    rw [app_len, app_len, show (Str.ofString "{").length = 1 from rfl, show (Str.ofString "}").length = 1 from rfl]
    rw [show (Str.ofString ", ").length = 2 from rfl] at t
    omega
theorem shownAll_le : ∀ ds : List D, okDs ds → ((PyData.shownAll ds).map fun t => t.length + 2).sum ≤ wts ds
  | [], _ => by simp [PyData.shownAll, wts]
  | d :: ds, h => by
    have h1 := shown_le d h.1
    have h2 := shownAll_le ds h.2
    simp only [PyData.shownAll, wts, List.map_cons, List.sum_cons]
    omega
theorem shownKv_le : ∀ ds : List (D × D), okDk ds → ((PyData.shownKv ds).map fun t => t.length + 2).sum ≤ wtk ds
  | [], _ => by simp [PyData.shownKv, wtk]
  | (a, b) :: ds, h => by
    have h1 := shown_le a h.1
    have h3 := shown_le b h.2.1
    have h2 := shownKv_le ds h.2.2
    simp only [PyData.shownKv, wtk, List.map_cons, List.sum_cons]
    rw [app_len, app_len, show (Str.ofString ": ").length = 2 from rfl]
    omega
end
theorem log_le {i : Int} (h : -100000000000000000000000000000000000000000000000000 < i ∧ i < 100000000000000000000000000000000000000000000000000) : i.natAbs.log2 < 1920 := by
  by_cases z : i.natAbs = 0
  · rw [z]; decide
  · have h1 : i.natAbs < 2 ^ 170 := by
      have : (2 : Nat) ^ 170 = 1496577676626844588240573268701473812127674924007424 := by decide
      omega
    have := (Nat.log2_lt z).mpr h1
    omega
mutual
theorem ok_showable : ∀ d : D, okD d → d.showable = true
  | .none, _ => rfl
  | .bool b, _ => rfl
  | .int i, h => decide_eq_true (log_le h)
  | .str x, _ => rfl
  | .list xs, h => ok_showableAll xs h
  | .tuple xs, h => ok_showableAll xs h
  | .dict kvs, h => ok_showableKv kvs h
theorem ok_showableAll : ∀ d : List D, okDs d → PyData.showableAll d = true
  | [], _ => rfl
  | d :: ds, h => by
    rw [PyData.showableAll, ok_showable d h.1, ok_showableAll ds h.2]; rfl
theorem ok_showableKv : ∀ d : List (D × D), okDk d → PyData.showableKv d = true
  | [], _ => rfl
  | (a, b) :: ds, h => by
    rw [PyData.showableKv, ok_showable a h.1, ok_showable b h.2.1, ok_showableKv ds h.2.2]; rfl
end
mutual
theorem ok_lay : ∀ d : D, okD d → d.hasDict = false → d.canLay0 = true
  | .none, _, _ => rfl
  | .bool b, _, _ => rfl
  | .int i, h, _ => rfl
  | .str x, h, _ => okS.ok h
  | .list xs, h, q => ok_layAll xs h (by simpa [PyData.hasDict] using q)
  | .tuple xs, h, q => ok_layAll xs h (by simpa [PyData.hasDict] using q)
  | .dict kvs, h, q => by simp [PyData.hasDict] at q
theorem ok_layAll : ∀ d : List D, okDs d → PyData.hasDictAll d = false → PyData.canLayAll0 d = true
  | [], _, _ => rfl
  | d :: ds, h, q => by
    simp only [PyData.hasDictAll, Bool.or_eq_false_iff] at q
    rw [PyData.canLayAll0, ok_lay d h.1 q.1, ok_layAll ds h.2 q.2]; rfl
end
/-- what repr and == ask -/
theorem repr_ok {d : D} (h : okD d) (h1 : wt d ≤ 16777216) (h2 : d.depth ≤ 64) (h3 : d.hasDict = false) : reprOk d = true := by
  have := shown_le d h
  have e : sizeLine = 16777216 := sizeLine_eq
  unfold reprOk
  rw [ok_showable d h, decide_eq_true (by omega : d.shown.length ≤ sizeLine), decide_eq_true h2, h3]; rfl
theorem shaped_ok {d : D} (h : okD d) (h2 : d.depth ≤ 64) (h3 : d.hasDict = false) : SeqAt.shaped d = true := by
  unfold SeqAt.shaped
  rw [ok_lay d h h3, decide_eq_true h2]; rfl
theorem W0.ok (w : W0) : okS w.s ∧ w.s.length ≤ 8 := by cases w <;> exact ⟨okS_of (by decide +kernel), by decide⟩
theorem W1.ok (w : W1) : okS w.s ∧ w.s.length ≤ 8 := by cases w <;> exact ⟨okS_of (by decide +kernel), by decide⟩
theorem WM.ok (w : WM) : okS w.s ∧ w.s.length ≤ 8 := by cases w <;> exact ⟨okS_of (by decide +kernel), by decide⟩
theorem WO.ok (w : WO) : okS w.s ∧ w.s.length ≤ 8 := by cases w <;> exact ⟨okS_of (by decide +kernel), by decide⟩
theorem W2.ok (w : W2) : okS w.s ∧ w.s.length ≤ 8 := by cases w <;> exact ⟨okS_of (by decide +kernel), by decide⟩
mutual
theorem Rdr.okD {n : Nat} : ∀ r : Rdr, r.good n → DL.okD r.toD
  | .l0 w, _ => ⟨w.ok.1, trivial⟩
  | .l1 w x, h => ⟨w.ok.1, h.2, trivial⟩
  | .ps w rs, h => ⟨w.ok.1, goods_okD rs h.2, trivial⟩
  | .un w r, h => ⟨w.ok.1, Rdr.okD r h, trivial⟩
  | .bi w x r, h => ⟨w.ok.1, h.1.2, Rdr.okD r h.2, trivial⟩
theorem goods_okD {n : Nat} : ∀ rs : List Rdr, goods n rs → okDs (toDs rs)
  | [], _ => trivial
  | r :: rs, h => ⟨Rdr.okD r h.1, goods_okD rs h.2⟩
end
mutual
theorem Rdr.wt {n : Nat} : ∀ r : Rdr, r.good n → DL.wt r.toD ≤ (10 * n + 110) * r.cnt
  | .l0 w, _ => by
    have := w.ok.2
    simp only [Rdr.toD, DL.wt, wts, Rdr.cnt]; omega
  | .l1 w x, h => by
    have := w.ok.2
    have := h.1
    simp only [Rdr.toD, DL.wt, wts, Rdr.cnt]; omega
  | .ps w rs, h => by
    have := w.ok.2
    have := goods_wt rs h.2
    have h6 := h.1
    simp only [Rdr.toD, DL.wt, wts, Rdr.cnt, Nat.mul_succ]; omega
  | .un w r, h => by
    have := w.ok.2
    have := Rdr.wt r h
    simp only [Rdr.toD, DL.wt, wts, Rdr.cnt, Nat.mul_succ]; omega
  | .bi w x r, h => by
    have := w.ok.2
    have := Rdr.wt r h.2
    have := h.1.1
    simp only [Rdr.toD, DL.wt, wts, Rdr.cnt, Nat.mul_succ]; omega
theorem goods_wt {n : Nat} : ∀ rs : List Rdr, goods n rs → wts (toDs rs) ≤ (10 * n + 110) * cnts rs + 2 * rs.length
  | [], _ => by simp [toDs, wts]
  | r :: rs, h => by
    have h1 := Rdr.wt r h.1
    have h2 := goods_wt rs h.2
    simp only [toDs, wts, cnts, List.length_cons, Nat.mul_add]; omega
end
mutual
theorem Rdr.depth : ∀ r : Rdr, r.toD.depth ≤ 2 * r.dep
  | .l0 w => by simp [Rdr.toD, PyData.depth, PyData.depthAll, Rdr.dep]
  | .l1 w x => by simp [Rdr.toD, PyData.depth, PyData.depthAll, Rdr.dep]
  | .ps w rs => by
    have := depths rs
    simp [Rdr.toD, PyData.depth, PyData.depthAll, Rdr.dep]; omega
  | .un w r => by
    have := Rdr.depth r
    simp [Rdr.toD, PyData.depth, PyData.depthAll, Rdr.dep]; omega
  | .bi w x r => by
    have := Rdr.depth r
    simp [Rdr.toD, PyData.depth, PyData.depthAll, Rdr.dep]; omega
theorem depths : ∀ rs : List Rdr, PyData.depthAll (toDs rs) ≤ 2 * deps rs
  | [] => by simp [toDs, PyData.depthAll]
  | r :: rs => by
    have h1 := Rdr.depth r
    have h2 := depths rs
    simp only [toDs, PyData.depthAll, deps]; omega
end
mutual
theorem Rdr.noDict : ∀ r : Rdr, r.toD.hasDict = false
  | .l0 w => by simp [Rdr.toD, PyData.hasDict, PyData.hasDictAll]
  | .l1 w x => by simp [Rdr.toD, PyData.hasDict, PyData.hasDictAll]
  | .ps w rs => by simp [Rdr.toD, PyData.hasDict, PyData.hasDictAll, noDicts rs]
  | .un w r => by simp [Rdr.toD, PyData.hasDict, PyData.hasDictAll, Rdr.noDict r]
  | .bi w x r => by simp [Rdr.toD, PyData.hasDict, PyData.hasDictAll, Rdr.noDict r]
theorem noDicts : ∀ rs : List Rdr, PyData.hasDictAll (toDs rs) = false
  | [] => by simp [toDs, PyData.hasDictAll]
  | r :: rs => by simp [toDs, PyData.hasDictAll, Rdr.noDict r, noDicts rs]
end
theorem hasDictAll_iff : ∀ {ds : List D}, PyData.hasDictAll ds = false ↔ ∀ d ∈ ds, d.hasDict = false
  | [] => by simp [PyData.hasDictAll]
  | d :: ds => by simp [PyData.hasDictAll, hasDictAll_iff (ds := ds)]
theorem depthAll_le {n : Nat} : ∀ {ds : List D}, PyData.depthAll ds ≤ n ↔ ∀ d ∈ ds, d.depth ≤ n
  | [] => by simp [PyData.depthAll]
  | d :: ds => by simp [PyData.depthAll, Nat.max_le, depthAll_le (ds := ds)]
end DL
namespace DL
open PySem L2 PyProof.Rows
theorem lp_by {g : GT} {body : MS} {O : Out} {ds : List D} {r : Rho} (I : List D → Rho → Prop) (hi : I ds r) (h : ∀ d ds r, I (d :: ds) r → (∀ r', I ds r' → loopM g body ds r' O) → loopM g body (d :: ds) r O) (h0 : ∀ r, I [] r → O.nx r) : Lp g body ds r O := ⟨loop_by I h h0 ds r hi⟩
theorem lcc_by {vs : List Nat} {g : GT} {tt : MT} {te : ME} {P : List D → Rho → Prop} {ds acc : List D} {r : Rho} (I : List D → List D → Rho → Prop) (hi : I ds acc r) (h : ∀ d ds acc r, I (d :: ds) acc r → (∀ acc' r', I ds acc' r' → lcM vs g tt te P ds acc' r') → lcM vs g tt te P (d :: ds) acc r) (h0 : ∀ acc r, I [] acc r → P acc r) : Lc vs g tt te P ds acc r := ⟨lc_by I h h0 ds acc r hi⟩
theorem range_len (lo : Int) (n : Nat) : (rangeD lo n).length = n := by simp [rangeD]
theorem flatD_strs (xs : List Str) : (xs.map PyData.str).all flatD = true := by
  induction xs with
  | nil => rfl
  | cons x xs ih => simp [flatD, ih]
end DL
namespace DL
open PySem L2 PyProof.Rows
inductive Sqn where
  | L (a : Addr) (xs : List V) | T (a : Addr) (xs : List V) | S (x : Str)
def Sqn.holds (K : Fg) (H : Hp) : Sqn → Prop
  | .L a xs => SqL K H a xs
  | .T a xs => SqT K H a xs
  | .S _ => True
def Sqn.tn (c : Sqn) (it : Addr) (i : Nat) (h : Heap) : Prop := match c with
  | .L a _ => h.IsListIter it a i
  | .T a _ => h.IsTupleIter it a i
  | .S x => ∃ t, h.IsStrIter it (strIterType x) x t i
def Sqn.ap (c : Sqn) (b : Addr) : Prop := match c with
  | .L a _ => a ≠ b
  | .T a _ => a ≠ b
  | .S _ => True
theorem Sqn.tn.at {c : Sqn} {it : Addr} {i : Nat} {h h' : Heap} (t : c.tn it i h) (k : ∀ o, h.get? it = some o → h'.get? it = some o) : c.tn it i h' := by
  cases c with
  | L a xs => exact Heap.IsListIter.at t k
  | T a xs => exact Heap.IsTupleIter.at t k
  | S x => obtain ⟨u, o, e, r⟩ := t; exact ⟨u, o, k o e, r⟩
/-- the cells of a zip lie apart -/
structure ZAp (z TI TO i1 i2 : Addr) (c1 c2 : Sqn) : Prop where
  TIz : TI ≠ z
  TOz : TO ≠ z
  TITO : TI ≠ TO
  TIi1 : TI ≠ i1
  TIi2 : TI ≠ i2
  TOi1 : TO ≠ i1
  TOi2 : TO ≠ i2
  i1z : i1 ≠ z
  i2z : i2 ≠ z
  i12 : i1 ≠ i2
  p1 : ∀ b ∈ [z, TI, TO, i1, i2], c1.ap b
  p2 : ∀ b ∈ [z, TI, TO, i1, i2], c2.ap b
theorem ZAp.sep {z TI TO i1 i2 : Addr} {c1 c2 : Sqn} {fp1 fp2 : List Addr} (D : ZAp z TI TO i1 i2 c1 c2) (m1 : i1 ∈ fp1) (m2 : i2 ∈ fp2) (n1 : ∀ b, b ≠ i1 → c1.ap b → b ∉ fp1) (n2 : ∀ b, b ≠ i2 → c2.ap b → b ∉ fp2) : ZipSep2 z TI TO i1 i2 fp1 fp2 where
  TIz := D.TIz
  TOz := D.TOz
  TITO := D.TITO
  TIi1 := D.TIi1
  mem1 := m1
  zf1 := n1 z (Ne.symm D.i1z) (D.p1 z (by simp))
  Tf1 := n1 TO D.TOi1 (D.p1 TO (by simp))
  TIi2 := D.TIi2
  mem2 := m2
  zf2 := n2 z (Ne.symm D.i2z) (D.p2 z (by simp))
  Tf2 := n2 TO D.TOi2 (D.p2 TO (by simp))
  sep1_2 := n2 i1 D.i12 (D.p2 i1 (by simp))
  sep2_1 := n1 i2 (Ne.symm D.i12) (D.p1 i2 (by simp))
end DL
namespace DL
open PySem L2 PyProof.Rows
section
variable {K : Fg} {e : En} {F : Hp} {r : Rho} {s : L2.St} {H : Hp}
/-- a new object as one more slot -/
theorem Ok.ext {p : Addr} {o : HO} {m : MB} (k : Ok K e F r s H) (h1 : H p = some o) (h2 : MO K F o m) (h3 : F p = none) (h4 : e.P p = none) (h5 : ¬ e.old p)
    (h6 : NB r s p) : Ok K e F (r ++ [some (.box false m)]) (s ++ [some (.ref p)]) H := by
  have get : ∀ {α : Type} {l : List α} {x y : α} {i : Nat}, (l ++ [x])[i]? = some y → l[i]? = some y ∨ (i = l.length ∧ x = y) := by
    intro α l x y i h
    rw [List.getElem?_append] at h
    split at h
    · exact .inl h
    · rename_i q
      cases z : i - l.length with
      | zero => rw [z] at h; simp at h; exact .inr ⟨by omega, h⟩
      | succ j => rw [z] at h; simp at h
  have put : ∀ {α : Type} {l : List α} {x y : α} {i : Nat}, l[i]? = some y → (l ++ [x])[i]? = some y := by
    intro α l x y i h
    rw [List.getElem?_append_left (List.getElem?_eq_some_iff.mp h).1]; exact h
  have last : (s ++ [some (V.ref p)])[r.length]? = some (some (V.ref p)) := by rw [k.len]; simp
  refine ⟨by rw [List.length_append, List.length_append, k.len]; rfl, k.sub, k.f0, k.prot, k.new, k.dom, fun i d z => ?_, fun i b m' z => ?_, fun i ns z => ?_, fun i j q b m1 b' m2 z z' y y' => ?_, fun i n a z => ?_, fun i G z => ?_, k.gpF⟩
  · rcases get z with z | ⟨_, z⟩
    · obtain ⟨v, g1, g2⟩ := k.slot i d z; exact ⟨v, put g1, g2⟩
    · cases z
  · rcases get z with z | ⟨rfl, zz⟩
    · obtain ⟨q, u, g1, g2⟩ := k.box i b m' z; exact ⟨q, u, put g1, g2.1, g2.2.1, g2.2.2.1, g2.2.2.2.1, g2.2.2.2.2⟩
    · cases zz
      exact ⟨p, o, last, h1, h2, h3, h4, fun _ => h5, fun q => by cases q⟩
  · rcases get z with z | ⟨_, z⟩
    · obtain ⟨a, g1, g2⟩ := k.ob i ns z; exact ⟨a, put g1, g2⟩
    · cases z
  · have sl : ∀ {i : Nat} {b : Bool} {m : MB}, r[i]? = some (some (Ce.box b m)) → (s ++ [some (V.ref p)])[i]? = some (some (V.ref q)) → s[i]? = some (some (V.ref q)) := by
      intro i b m z y
      rcases get y with y | ⟨y, _⟩
      · exact y
      · have := (List.getElem?_eq_some_iff.mp z).1
        rw [k.len] at this; omega
    rcases get z with z | ⟨rfl, z⟩
    · rcases get z' with z' | ⟨rfl, z'⟩
      · exact k.sep i j q b m1 b' m2 z z' (sl z y) (sl z' y')
      · rw [last] at y'; cases y'
        exact absurd (sl z y) (h6.1 i b m1 z)
    · rw [last] at y; cases y
      rcases get z' with z' | ⟨rfl, z'⟩
      · exact absurd (sl z' y') (h6.1 j b' m2 z')
      · rfl
  · rcases get z with z | ⟨_, z⟩
    · exact put (k.adr i n a z)
    · cases z
  · rcases get z with z | ⟨_, z⟩
    · obtain ⟨g1, g2, g3⟩ := k.gh i G z
      refine ⟨g1, fun j b m' q z2 w => ?_, fun j G' z2 => ?_⟩
      · rcases get z2 with z2 | ⟨rfl, _⟩
        · rcases get w with w | ⟨y, _⟩
          · exact g2 j b m' q z2 w
          · have := (List.getElem?_eq_some_iff.mp z2).1
            rw [k.len] at this; omega
        · rw [last] at w; cases w
          exact h6.2 i G z
      · rcases get z2 with z2 | ⟨_, z2⟩
        · exact g3 j G' z2
        · cases z2
    · cases z
theorem Ok.cut {n : Nat} (k : Ok K e F r s H) : Ok K e F (r.take n) (s.take n) H := by
  have get : ∀ {α : Type} {l : List α} {y : α} {i : Nat}, (l.take n)[i]? = some y → i < n ∧ l[i]? = some y := by
    intro α l y i h
    rw [List.getElem?_take] at h
    split at h
    · rename_i q; exact ⟨q, h⟩
    · cases h
  have put : ∀ {α : Type} {l : List α} {y : α} {i : Nat}, i < n → l[i]? = some y → (l.take n)[i]? = some y := by
    intro α l y i q h
    rw [List.getElem?_take, if_pos q]; exact h
  refine ⟨by rw [List.length_take, List.length_take, k.len], k.sub, k.f0, k.prot, k.new, k.dom, fun i d z => ?_, fun i b m' z => ?_, fun i ns z => ?_, fun i j q b m1 b' m2 z z' y y' => ?_, fun i n a z => ?_, fun i G z => ?_, k.gpF⟩
  · obtain ⟨q, z⟩ := get z
    obtain ⟨v, g1, g2⟩ := k.slot i d z; exact ⟨v, put q g1, g2⟩
  · obtain ⟨q, z⟩ := get z
    obtain ⟨p, u, g1, g2⟩ := k.box i b m' z; exact ⟨p, u, put q g1, g2⟩
  · obtain ⟨q, z⟩ := get z
    obtain ⟨a, g1, g2⟩ := k.ob i ns z; exact ⟨a, put q g1, g2⟩
  · exact k.sep i j q b m1 b' m2 (get z).2 (get z').2 (get y).2 (get y').2
  · obtain ⟨q, z⟩ := get z
    exact put q (k.adr i n a z)
  · obtain ⟨g1, g2, g3⟩ := k.gh i G (get z).2
    exact ⟨g1, fun j b m p z2 w => g2 j b m p (get z2).2 (get w).2, fun j G' z2 => g3 j G' (get z2).2⟩
theorem RT.ext {x : R} {v : V} {t : L2.St} (h : RT K F s x v) : RT K F (s ++ t) x v := by
  cases h with
  | val a => exact .val a
  | bor a => exact .bor (by rw [List.getElem?_append_left (List.getElem?_eq_some_iff.mp a).1]; exact a)
  | ob a => exact .ob a
  | adr => exact .adr
theorem RTs.ext {xs : List R} {vs : List V} {t : L2.St} (h : RTs K F s xs vs) : RTs K F (s ++ t) xs vs := by
  induction h with
  | nil => exact .nil
  | cons a _ ih => exact .cons a.ext ih
/-- values of arguments, one of them a new object -/
inductive RTw (K : Fg) (e : En) (F : Hp) (r : Rho) (s : L2.St) (H : Hp) : List R → List V → Prop
  | own {m : MB} {v : V} {xs : List R} {vs : List V} : RR K e F r s H (.own m) v → RTs K F s xs vs → RTw K e F r s H (.own m :: xs) (v :: vs)
  | cons {x : R} {v : V} {xs : List R} {vs : List V} : RT K F s x v → RTw K e F r s H xs vs → RTw K e F r s H (x :: xs) (v :: vs)
/-- the new object's place in the list is slot n -/
def splitO (n : Nat) : List R → Option (List R × MB)
  | [] => none
  | .own m :: xs => some (.bor n :: xs, m)
  | .val d :: xs => match splitO n xs with
    | some q => some (.val d :: q.1, q.2)
    | none => none
  | .bor i :: xs => match splitO n xs with
    | some q => some (.bor i :: q.1, q.2)
    | none => none
  | .ob ns :: xs => match splitO n xs with
    | some q => some (.ob ns :: q.1, q.2)
    | none => none
  | .adr n' a :: xs => match splitO n xs with
    | some q => some (.adr n' a :: q.1, q.2)
    | none => none
theorem RTw.split {xs : List R} {vs : List V} (t : RTw K e F r s H xs vs) (k : Ok K e F r s H) : ∃ (zs : List R) (m : MB) (p : Addr), splitO r.length xs = some (zs, m) ∧ RTs K F (s ++ [some (.ref p)]) zs vs ∧ Ok K e F (r ++ [some (.box false m)]) (s ++ [some (.ref p)]) H := by
  induction t with
  | own h t =>
    cases h with
    | own h1 h2 h3 h4 h5 h6 =>
      refine ⟨_, _, _, rfl, .cons (.bor ?_) t.ext, k.ext h1 h2 h3 h4 h5 h6⟩
      rw [k.len]; simp
  | cons a t ih =>
    obtain ⟨zs, m, p, e1, t1, k1⟩ := ih
    cases a with
    | val q => exact ⟨_, m, p, by simp only [splitO, e1], .cons (.val q) t1, k1⟩
    | bor q => exact ⟨_, m, p, by simp only [splitO, e1], .cons (RT.bor q).ext t1, k1⟩
    | ob q => exact ⟨_, m, p, by simp only [splitO, e1], .cons (.ob q) t1, k1⟩
    | @adr n a => exact ⟨.adr n a :: zs, m, p, by simp only [splitO, e1], .cons .adr t1, k1⟩
theorem RTw.length {xs : List R} {vs : List V} (t : RTw K e F r s H xs vs) : xs.length = vs.length := by
  induction t with
  | own h t => rw [List.length_cons, List.length_cons, t.length]
  | cons a t ih => rw [List.length_cons, List.length_cons, ih]
theorem RR.mono {x : R} {v : V} {m : MB} {F' : Hp} {r' : Rho} {H' : Hp} {p : Addr} {o : HO} (k : Ok K (e.keep p o) F' r' s H') (hm : MO K F' o m) (hP : e.P p = none) (hF0 : e.F0 p = none) (ho : ¬ e.old p) : RR K e F' r' s H' (.own m) (.ref p) := by
  obtain ⟨k', h1, h2, h3⟩ := k.unkeep hP hF0 hm.ntup
  exact .own h1 hm h2 hP ho h3
end
section
variable {X : Cx} {a : Expr} {es : List Expr} {ma : ME} {ms : MA} {k n : Nat} {f : Addr} {fd : FuncData} {ps : List Str} {c : Ct} {x : Str} {p pos : Pos}
/-- the module's name x is a def that keeps the contract c, called by places -/
structure DefP (P : Program) (w : World) (K : Fg) (mg : Str → Option Value) (base : Heap) (k : Nat) (x : Str) (n : Nat) (c : Ct) : Prop where
  ex : ∃ f fd ps, mg x = some (.ref f) ∧ PySem.W.keepIn K (.ref f) = true ∧ FnD P w K mg base k f fd ps c ∧ Binds K fd ps [] ∧ ps.length = n
theorem DefP.of {P : Program} {w : World} {K : Fg} {mg : Str → Option Value} {base : Heap} {k : Nat} {x : Str} {c : Ct} {f : Addr} {fd : FuncData} {ps : List Str} (hm : mg x = some (.ref f)) (hk : PySem.W.keepIn K (.ref f) = true) (F : FnD P w K mg base k f fd ps c) (hb : Binds K fd ps []) : DefP P w K mg base k x ps.length c := ⟨⟨f, fd, ps, hm, hk, F, hb, rfl⟩⟩
end
end DL
namespace DL
open PySem L2 PyProof.Rows
def minI : List Int → Int
  | [] => 0
  | a :: r => r.foldl (fun m x => if x < m then x else m) a
theorem fold_min : ∀ (r : List Int) (a : Int), (r.foldl (fun m x => if x < m then x else m) a) ∈ a :: r ∧ ∀ x ∈ a :: r, r.foldl (fun m x => if x < m then x else m) a ≤ x
  | [], a => by simp
  | b :: r, a => by
    rw [List.foldl_cons]
    by_cases h : b < a
    · rw [if_pos h]
      obtain ⟨h1, h2⟩ := fold_min r b
      refine ⟨List.mem_cons_of_mem _ h1, fun x hx => ?_⟩
      rcases List.mem_cons.mp hx with rfl | hx
      · have := h2 b List.mem_cons_self; omega
      · exact h2 x hx
    · rw [if_neg h]
      obtain ⟨h1, h2⟩ := fold_min r a
      refine ⟨?_, fun x hx => ?_⟩
      · rcases List.mem_cons.mp h1 with h1 | h1
        · rw [h1]; exact List.mem_cons_self
        · exact List.mem_cons_of_mem _ (List.mem_cons_of_mem _ h1)
      · rcases List.mem_cons.mp hx with rfl | hx
        · exact h2 _ List.mem_cons_self
        · rcases List.mem_cons.mp hx with rfl | hx
          · have := h2 a List.mem_cons_self; omega
          · exact h2 x (List.mem_cons_of_mem _ hx)
theorem minI_mem {ns : List Int} (h : ns ≠ []) : minI ns ∈ ns ∧ ∀ x ∈ ns, minI ns ≤ x := by
  cases ns with
  | nil => exact absurd rfl h
  | cons a r => exact fold_min r a
section
variable {X : Cx}
theorem LkA.three {K : Fg} {F H : Hp} {vs : List V} {d d' d'' : D} (h : LkA K F H vs [d, d', d'']) : ∃ v v' v'', vs = [v, v', v''] ∧ Lk K F H v d ∧ Lk K F H v' d' ∧ Lk K F H v'' d'' := by
  cases h with
  | cons a h =>
    obtain ⟨v', v'', rfl, b, c⟩ := h.two
    exact ⟨_, _, _, rfl, a, b, c⟩
def fMinA : FA
  | [.int i, .int j] => some (.val (.int (if j < i then j else i)))
  | [.int i, .int j, .int l] => some (.val (.int (if l < (if j < i then j else i) then l else (if j < i then j else i))))
  | [.list ds] => match intsOf ds with
    | some ns => if ns ≠ [] then some (.val (.int (minI ns))) else none
    | none => none
  | _ => none
theorem nuMin3_int (i j l : Int) : nuMin3 (V.int i) (.int j) (.int l) = some (.int (if l < (if j < i then j else i) then l else (if j < i then j else i))) := by
  have e1 : nuMin2 (V.int i) (V.int j) = some (V.int (if j < i then j else i)) := by
    show some (if decide (j < i) = true then V.int j else V.int i) = _
    by_cases h : j < i <;> simp [h]
  have e2 : ∀ m : Int, nuMin2 (V.int m) (V.int l) = some (V.int (if l < m then l else m)) := fun m => by
    show some (if decide (l < m) = true then V.int l else V.int m) = _
    by_cases h : l < m <;> simp [h]
  unfold nuMin3
  rw [e1, Option.bind_some, e2]
theorem calld_minA (hc : X.calm = true) : CallD X (.builtin "min") fMinA := by
  refine ⟨_, CallR.or (call_min2 hc) (CallR.or (cr_min hc) (call_min3Nu hc)), fun e F r s H vs ds z Q k l ef w => ?_⟩
  unfold fMinA at ef
  split at ef
  · cases ef
    obtain ⟨v, v', rfl, lk, lk'⟩ := l.two
    rw [lk.int, lk'.int]
    exact .inl ⟨_, _, rfl, w _ F H k (Sub.refl F) (.val (.int _))⟩
  · cases ef
    obtain ⟨v, v', v'', rfl, lk, lk', lk''⟩ := l.three
    rw [lk.int, lk'.int, lk''.int]
    exact .inr (.inr ⟨_, _, _, _, rfl, nuMin3_int _ _ _, w _ F H k (Sub.refl F) (.val (.int _))⟩)
  · rename_i ds
    split at ef
    · rename_i ns hn
      split at ef
      · rename_i hne
        cases ef
        obtain ⟨v, rfl, lk⟩ := l.one
        obtain ⟨a, xs, rfl, h1, h2⟩ := lk.lst k.sub
        have e3 := h2.ints hn
        subst e3
        refine .inr (.inl ⟨a, ns, rfl, .inl h1, List.length_pos_iff.mpr hne, fun m h1 h2 => ?_⟩)
        obtain ⟨g1, g2⟩ := minI_mem hne
        have : m = minI ns := Int.le_antisymm (h2 _ g1) (g2 m h1)
        rw [this]
        exact w _ F H k (Sub.refl F) (.val (.int _))
      · cases ef
    · cases ef
  · cases ef
def kMinA : List D → (R → Prop) → Prop
  | [.int i, .int j], K => K (.val (.int (if j < i then j else i)))
  | [.int i, .int j, .int l], K => K (.val (.int (if l < (if j < i then j else i) then l else (if j < i then j else i))))
  | [.list ds], K => onO (intsOf ds) fun ns => Rq (ns ≠ []) (K (.val (.int (minI ns))))
  | _, _ => False
def cMinA : CaK := ⟨fMinA, kMinA, fun ds K h => by
  unfold kMinA at h
  split at h
  · exact ⟨_, rfl, h⟩
  · exact ⟨_, rfl, h⟩
  · obtain ⟨ns, e, h2⟩ := onO.ex h
    exact ⟨_, by simp only [fMinA, e]; exact rq_if h2, Rq.a h2⟩
  · exact h.elim⟩
end
end DL
namespace DL
open PySem L2 PyProof.Rows
end DL
namespace DL
open PySem L2 PyProof.Rows
def SIGNS : Str := "\n !\"#$&'()*+,-./0123456789:;<=>?@ABCDEFGHIJKLMNOPQRSTUVWXYZ[\\]^_`abcdefghijklmnopqrstuvwxyz{|}~"
def LETTERS : Str := "abcdefghijklmnopqrstuvwxyz"
def inL (c : Nat) : Bool := decide (c ∈ LETTERS.cps.toList)
def Fit (d : D) : Prop := okD d ∧ wt d ≤ 1000000 ∧ d.depth ≤ 64
theorem wts_mem {d : D} : ∀ {ds : List D}, d ∈ ds → wt d + 2 ≤ wts ds
  | [], h => by cases h
  | e :: ds, h => by
    rw [wts]
    rcases List.mem_cons.mp h with rfl | h
    · omega
    · have := wts_mem h; omega
theorem Fit.tup {ds : List D} (h : Fit (.tuple ds)) : ∀ d ∈ ds, Fit d := fun d hd => by
  obtain ⟨h1, h2, h3⟩ := h
  refine ⟨okDs_iff.mp h1 d hd, ?_, ?_⟩
  · have := wts_mem hd
    rw [wt] at h2; omega
  · have h5 : PyData.depthAll ds ≤ 63 := by
      simp only [PyData.depth] at h3; omega
    exact Nat.le_trans (depthAll_le.mp h5 d hd) (by omega)
theorem Fit.str {x : Str} (h : Fit (.str x)) : x.length ≤ 1000000 := by
  have := h.2.1
  rw [wt] at this; omega
theorem Fit.len {ds : List D} (h : Fit (.tuple ds)) : ds.length ≤ 1000000 := by
  have h2 := h.2.1
  rw [wt] at h2
  have : ∀ ds : List D, ds.length ≤ wts ds := fun ds => by
    induction ds with
    | nil => simp
    | cons d ds ih => rw [wts, List.length_cons]; omega
  have := this ds
  omega
theorem Fit.shaped {d : D} (h : Fit d) (hd : d.hasDict = false) : SeqAt.shaped d = true := shaped_ok h.1 h.2.2 hd
theorem all_map {α : Type} (f : α → Bool) (as : List α) : (as.map f).all id = as.all f := by simp [List.all_map]
theorem cutS_lo (x : Str) (k : Nat) : (cutS x (some (k : Int)) none).cps.toList = x.cps.toList.drop k := by
  unfold cutS
  rw [HT.sIx_none, HT.sIx_nat]
  show ((x.cps.toList.drop (min k x.length)).take (x.length - min k x.length)) = _
  have hl : x.cps.toList.length = x.length := Array.length_toList
  rw [List.take_of_length_le (by rw [List.length_drop, hl]; omega)]
  by_cases h : k ≤ x.length
  · rw [Nat.min_eq_left h]
  · rw [Nat.min_eq_right (by omega), List.drop_of_length_le (by omega), List.drop_of_length_le (by omega)]
theorem cutS_hi (x : Str) (k : Nat) : (cutS x none (some (k : Int))).cps.toList = x.cps.toList.take k := by
  unfold cutS
  rw [HT.sIx_none, HT.sIx_nat]
  show ((x.cps.toList.drop 0).take (min k x.length - 0)) = _
  have hl : x.cps.toList.length = x.length := Array.length_toList
  rw [List.drop_zero, Nat.sub_zero]
  by_cases h : k ≤ x.length
  · rw [Nat.min_eq_left h]
  · rw [Nat.min_eq_right (by omega), List.take_of_length_le (by omega), List.take_of_length_le (by omega)]
theorem cutS_lohi (x : Str) (k l : Nat) : (cutS x (some (k : Int)) (some (l : Int))).cps.toList = (x.cps.toList.drop k).take (l - k) := by
  unfold cutS
  rw [HT.sIx_nat, HT.sIx_nat]
  show ((x.cps.toList.drop (min k x.length)).take (min l x.length - min k x.length)) = _
  have hl : x.cps.toList.length = x.length := Array.length_toList
  apply List.ext_getElem?
  intro i
  rw [List.getElem?_take, List.getElem?_take, List.getElem?_drop, List.getElem?_drop]
  by_cases h : k ≤ x.length
  · rw [Nat.min_eq_left h]
    by_cases h2 : i < l - k
    · rw [if_pos h2]
      by_cases h3 : i < min l x.length - k
      · rw [if_pos h3]
      · rw [if_neg h3, List.getElem?_eq_none (by omega)]
    · rw [if_neg h2, if_neg (by omega)]
  · rw [if_neg (by omega)]
    split
    · rw [List.getElem?_eq_none (by omega)]
    · rfl
theorem at_0 {α : Type} (x : α) (xs : List α) : atI (x :: xs) 0 = some x := by
  unfold atI ixN
  rw [if_pos (by omega), if_pos (by rw [List.length_cons]; omega)]
  rfl
theorem at_nat {α : Type} {xs : List α} {i : Nat} {x : α} (h : xs[i]? = some x) : atI xs (i : Int) = some x := by
  have hl := (List.getElem?_eq_some_iff.mp h).1
  unfold atI ixN
  rw [if_pos (by omega), if_pos (by omega)]
  simpa using h
end DL
namespace DL
open PySem L2 PyProof.Rows
theorem SIGNS_len : SIGNS.length = 95 := by decide +kernel
/-- a rising text of at most 94 signs -/
def Sg0 (x : Str) : Prop := x.cps.toList.Sublist SIGNS.cps.toList ∧ x.length ≤ 94
def Sg1 (x : Str) : Prop := Sg0 x ∧ 1 ≤ x.length
def Nm (x : Str) : Prop := x.cps.toList.all inL = true ∧ 1 ≤ x.length ∧ x.length ≤ 8
def Mk (x : Str) : Prop := x = "text" ∨ x = "drop" ∨ x = "count" ∨ x = "number"
theorem SIGNS_ok : ∀ c ∈ SIGNS.cps.toList, c < 1114112 := by decide +kernel
theorem LETTERS_ok : ∀ c ∈ LETTERS.cps.toList, c < 1114112 := by decide +kernel
theorem Sg0.ok {x : Str} (h : Sg0 x) : Tx 94 x := ⟨h.2, fun c hc => SIGNS_ok c (h.1.subset hc)⟩
theorem Nm.ok {x : Str} (h : Nm x) : Tx 8 x := ⟨h.2.2, fun c hc => LETTERS_ok c (of_decide_eq_true (List.all_eq_true.mp h.1 c hc))⟩
theorem Mk.ok {x : Str} (h : Mk x) : Tx 8 x := by
  rcases h with rfl | rfl | rfl | rfl <;> exact ⟨by decide, okS_of (by decide +kernel)⟩
/-- a join of signs -/
theorem joinS (l : List Nat) : (Str.join (Str.ofString "") (l.map fun c => (⟨#[c]⟩ : Str))).cps.toList = l := by
  induction l with
  | nil => rfl
  | cons c l ih =>
    cases l with
    | nil => rfl
    | cons d l =>
      have e : Str.join (Str.ofString "") ((c :: d :: l).map fun c => (⟨#[c]⟩ : Str)) = (⟨#[c]⟩ : Str) ++ Str.ofString "" ++ Str.join (Str.ofString "") ((d :: l).map fun c => (⟨#[c]⟩ : Str)) := rfl
      rw [e, app_list, app_list, ih]; rfl
theorem joinOnes (l : List Nat) : (Txt.join (Str.ofString "") (l.map fun c => (⟨#[c]⟩ : Str))).cps.toList = l := by
  rw [show Txt.join (Str.ofString "") (l.map fun c => (⟨#[c]⟩ : Str)) = Str.join (Str.ofString "") (l.map fun c => (⟨#[c]⟩ : Str)) from StrLaws.glued_eq_join _ _]
  exact joinS l
theorem join_ones_fit {l : List Nat} (h : l.length ≤ 1000000) : joinLen (Str.ofString "") (l.map fun c => (⟨#[c]⟩ : Str)) ≤ 16777216 := by
  have := joinLen_le (a := Str.ofString "") (xs := l.map fun c => (⟨#[c]⟩ : Str)) (m := 1) (by
    intro y hy
    rw [List.mem_map] at hy
    obtain ⟨c, _, rfl⟩ := hy
    exact Nat.le_refl _)
  rw [show (Str.ofString "").length = 0 from rfl, List.length_map] at this
  omega
theorem strsOf_ones (l : List Nat) : strsOf (l.map fun c => PyData.str ⟨#[c]⟩) = some (l.map fun c => (⟨#[c]⟩ : Str)) := strsOf_mapf (fun c => (⟨#[c]⟩ : Str)) l
theorem slen (x : Str) : x.length = x.cps.toList.length := (Array.length_toList).symm
mutual
def Rdr.wf : Rdr → Prop
  | .l0 _ => True
  | .l1 .sign x => Sg1 x
  | .l1 .but x => Sg0 x
  | .l1 .name x => Nm x
  | .l1 .again x => Nm x
  | .ps _ rs => 2 ≤ rs.length ∧ rs.length ≤ 6 ∧ wfs rs
  | .un _ r => r.wf
  | .bi .make x r => Mk x ∧ r.wf
  | .bi .hold x r => Nm x ∧ r.wf
  | .bi .tag x r => Nm x ∧ r.wf
def wfs : List Rdr → Prop
  | [] => True
  | r :: rs => r.wf ∧ wfs rs
end
theorem wfs_iff : ∀ {rs : List Rdr}, wfs rs ↔ ∀ r ∈ rs, r.wf
  | [] => by simp [wfs]
  | r :: rs => by simp [wfs, wfs_iff (rs := rs)]
mutual
theorem Rdr.wf.good : ∀ {r : Rdr}, r.wf → r.good 94
  | .l0 _, _ => trivial
  | .l1 .sign x, h => h.1.ok
  | .l1 .but x, h => Sg0.ok h
  | .l1 .name x, h => (Nm.ok h).mono (by omega)
  | .l1 .again x, h => (Nm.ok h).mono (by omega)
  | .ps _ rs, h => ⟨h.2.1, wfs.good h.2.2⟩
  | .un _ r, h => Rdr.wf.good (r := r) h
  | .bi .make x r, h => ⟨h.1.ok.mono (by omega), Rdr.wf.good h.2⟩
  | .bi .hold x r, h => ⟨(Nm.ok h.1).mono (by omega), Rdr.wf.good h.2⟩
  | .bi .tag x r, h => ⟨(Nm.ok h.1).mono (by omega), Rdr.wf.good h.2⟩
theorem wfs.good : ∀ {rs : List Rdr}, wfs rs → goods 94 rs
  | [], _ => trivial
  | r :: rs, h => ⟨Rdr.wf.good h.1, wfs.good h.2⟩
end
theorem Rdr.dep_pos (r : Rdr) : 1 ≤ r.dep := by cases r <;> simp only [Rdr.dep] <;> omega
def kids : Rdr → List Rdr
  | .ps _ rs => rs
  | .un _ r => [r]
  | .bi _ _ r => [r]
  | _ => []
theorem kids_dep {r : Rdr} {n : Nat} (h : r.dep ≤ n + 1) : ∀ k ∈ kids r, k.dep ≤ n := by
  cases r with
  | l0 w => intro k hk; cases hk
  | l1 w x => intro k hk; cases hk
  | ps w rs =>
    rw [Rdr.dep] at h
    exact (deps_le (n := n) (rs := rs)).mp (by omega)
  | un w r => intro k hk; rw [List.mem_singleton.mp hk]; rw [Rdr.dep] at h; omega
  | bi w x r => intro k hk; rw [List.mem_singleton.mp hk]; rw [Rdr.dep] at h; omega
theorem kids_cnt {r : Rdr} : ∀ k ∈ kids r, k.cnt < r.cnt := by
  cases r with
  | l0 w => intro k hk; cases hk
  | l1 w x => intro k hk; cases hk
  | ps w rs =>
    intro k hk
    have := cnts_le (n := 0) (rs := rs) k hk
    rw [Rdr.cnt]; omega
  | un w r => intro k hk; rw [List.mem_singleton.mp hk, Rdr.cnt]; omega
  | bi w x r => intro k hk; rw [List.mem_singleton.mp hk, Rdr.cnt]; omega
end DL
namespace DL
open PySem L2 PyProof.Rows
theorem strictL_mk : ∀ {l : List D} {K : List D → Prop}, K l → strictL l K
  | [], _, h => h
  | d :: l, K, h => strictL_mk (l := l) (K := fun l' => K (d :: l')) h
theorem ix_nat {n : Nat} {i : Int} (h0 : 0 ≤ i) (h1 : i < n) : ixN n i = some i.toNat := by
  unfold ixN
  rw [if_pos h0, if_pos h1]
theorem range_ints {lo : Int} {n : Nat} : ∀ d ∈ rangeD lo n, ∃ i : Int, d = .int i ∧ lo ≤ i ∧ i < lo + n := by
  intro d hd
  unfold rangeD at hd
  rw [List.mem_map] at hd
  obtain ⟨k, hk, rfl⟩ := hd
  rw [List.mem_range] at hk
  exact ⟨_, rfl, by omega, by omega⟩
theorem letter_at {v : Int} (h0 : 0 ≤ v) (h1 : v < 26) : ∃ c : Nat, atI (Str.ofString "abcdefghijklmnopqrstuvwxyz").cps.toList v = some c ∧ inL c = true := by
  refine at_all (fun c => inL c = true) h0 h1 ?_
  decide +kernel
theorem nm_of {x : Str} (h1 : x.cps.toList.all inL = true) (h2 : 1 ≤ x.length) (h3 : x.length ≤ 8) : Nm x := ⟨h1, h2, h3⟩
/-- a letter put in -/
theorem nm_put {x : Str} {c s : Nat} (h : x.cps.toList.all inL = true) (hl : x.length ≤ 7) (hc : inL c = true) (hs : s ≤ x.length) : Nm (cutS x none (some (s : Int)) ++ (⟨#[c]⟩ : Str) ++ cutS x (some (s : Int)) none) := by
  have e : (cutS x none (some (s : Int)) ++ (⟨#[c]⟩ : Str) ++ cutS x (some (s : Int)) none).cps.toList = x.cps.toList.take s ++ [c] ++ x.cps.toList.drop s := by
    rw [app_list, app_list, cutS_hi, cutS_lo]
  have el : (cutS x none (some (s : Int)) ++ (⟨#[c]⟩ : Str) ++ cutS x (some (s : Int)) none).length = x.length + 1 := by
    rw [slen, e]
    simp only [List.length_append, List.length_take, List.length_drop, List.length_cons, List.length_nil, ← slen]
    omega
  refine ⟨?_, by omega, by omega⟩
  rw [e, List.all_append, List.all_append, Bool.and_eq_true, Bool.and_eq_true]
  rw [List.all_eq_true] at h
  refine ⟨⟨?_, by simp [hc]⟩, ?_⟩
  · exact List.all_eq_true.mpr fun d hd => h d (List.mem_of_mem_take hd)
  · exact List.all_eq_true.mpr fun d hd => h d (List.mem_of_mem_drop hd)
theorem cutS_len (x : Str) (a b : Option Int) : (cutS x a b).length ≤ x.length := by
  rw [slen, slen]
  unfold cutS
  show ((x.cps.toList.drop _).take _).length ≤ _
  rw [List.length_take, List.length_drop]; omega
end DL
namespace DL
open PySem L2 PyProof.Rows
theorem cnt_pos (q : Rdr) : 1 ≤ q.cnt := by cases q <;> simp only [Rdr.cnt] <;> omega
theorem cnts_app (rs qs : List Rdr) : cnts (rs ++ qs) = cnts rs + cnts qs := by
  induction rs with
  | nil => simp [cnts]
  | cons q rs ih => simp only [List.cons_append, cnts, ih]; omega
theorem cnts_ge (rs : List Rdr) : rs.length ≤ cnts rs := by
  induction rs with
  | nil => simp [cnts]
  | cons q rs ih =>
    have := cnt_pos q
    simp only [cnts, List.length_cons]; omega
end DL
namespace DL
open PySem L2 PyProof.Rows
section
variable {X : Cx}
def rEqT0 (K : Fg) : R2 := fun x y H Q => ∃ a b xs, x = .ref a ∧ y = .ref b ∧ SqT K H a xs ∧ SqT K H b [] ∧ Q (.bl xs.isEmpty) H
theorem op_eqT0 (hu : X.A.units + 64 < cLine) : OpR X (compareOp .Eq) (rEqT0 X.K) := by
  intro pins s σ H x y v u Q I rx ry h
  obtain ⟨a, b, xs, rfl, rfl, h1, h2, q⟩ := h
  obtain rfl : v = Value.ref a := rx
  obtain rfl : u = Value.ref b := ry
  obtain ⟨its, rv, p, _⟩ := I.tuple h1
  obtain ⟨its2, rv2, p2, _⟩ := I.tuple h2
  cases rv2
  have z := SeqAt.RcAt.tuples (A := X.A) (e := fun _ => true) (show s.heap.IsTuple a its.toArray from p) (show s.heap.IsTuple b ([] : List Value).toArray from p2) (by omega) (fun j j1 j2 => by simp at j2)
  refine z X.prog X.w X.xe _ ⟨.bl xs.isEmpty, H, I, ?_, q⟩
  have hl := rv.length
  have e : ((List.range (min its.toArray.size ([] : List Value).toArray.size)).all (fun _ => true) && its.toArray.size == ([] : List Value).toArray.size) = xs.isEmpty := by
    cases xs with
    | nil => cases rv; rfl
    | cons x xs => cases rv; simp
  rw [e]; rfl
def fEqT0 : F2 := fun a b => match a, b with
  | .tuple ds, .tuple [] => some (.val (.bool ds.isEmpty))
  | _, _ => none
theorem opd_eqT0 (hu : X.A.units + 64 < cLine) : OpD X (compareOp .Eq) fEqT0 := by
  refine ⟨_, op_eqT0 hu, fun e F r s H v1 v2 d1 d2 z Q k l1 l2 ef w => ?_⟩
  unfold fEqT0 at ef
  split at ef
  · rename_i ds
    cases ef
    obtain ⟨a, xs, rfl, h1, h2, _⟩ := l1.tup k.sub
    obtain ⟨b, ys, rfl, h3, h4, _⟩ := l2.tup k.sub
    cases h4
    refine ⟨a, b, xs, rfl, rfl, h1, h3, ?_⟩
    rw [h2.isEmpty]
    exact w _ F H k (Sub.refl F) (.val (.bl _))
  · cases ef
def rEqL0 (K : Fg) : R2 := fun x y H Q => ∃ a b xs, x = .ref a ∧ y = .ref b ∧ SqL K H a xs ∧ SqL K H b [] ∧ Q (.bl xs.isEmpty) H
theorem op_eqL0 (hu : X.A.units + 64 < cLine) : OpR X (compareOp .Eq) (rEqL0 X.K) := by
  intro pins s σ H x y v u Q I rx ry h
  obtain ⟨a, b, xs, rfl, rfl, h1, h2, q⟩ := h
  obtain rfl : v = Value.ref a := rx
  obtain rfl : u = Value.ref b := ry
  obtain ⟨its, rv, p, _⟩ := I.list h1
  obtain ⟨its2, rv2, p2, _⟩ := I.list h2
  cases rv2
  have hl := rv.length
  cases xs with
  | nil =>
    cases rv
    have z := SeqAt.RcAt.lists (A := X.A) (e := fun _ => true) p.isList p2.isList rfl (by omega) (fun j j1 j2 => by simp at j2)
    exact z X.prog X.w X.xe _ ⟨.bl true, H, I, rfl, q⟩
  | cons x xs =>
    have z := SeqAt.RcAt.lists_lengths (A := X.A) p.isList p2.isList (by rw [List.size_toArray, ← hl]; rfl) (by omega)
    exact z X.prog X.w X.xe _ ⟨.bl false, H, I, rfl, q⟩
def fEqL0 : F2 := fun a b => match a, b with
  | .list ds, .list [] => some (.val (.bool ds.isEmpty))
  | _, _ => none
theorem opd_eqL0 (hu : X.A.units + 64 < cLine) : OpD X (compareOp .Eq) fEqL0 := by
  refine ⟨_, op_eqL0 hu, fun e F r s H v1 v2 d1 d2 z Q k l1 l2 ef w => ?_⟩
  unfold fEqL0 at ef
  split at ef
  · rename_i ds
    cases ef
    obtain ⟨a, xs, rfl, h1, h2⟩ := l1.lst k.sub
    obtain ⟨b, ys, rfl, h3, h4⟩ := l2.lst k.sub
    cases h4
    refine ⟨a, b, xs, rfl, rfl, .inl h1, .inl h3, ?_⟩
    rw [h2.isEmpty]
    exact w _ F H k (Sub.refl F) (.val (.bl _))
  · cases ef
def fEqU : F2 := orF (orF fEqT0 fEqL0) fEq
theorem opd_eqU (hu : X.A.units + 64 < cLine) : OpD X (compareOp .Eq) fEqU := OpD.or (OpD.or (opd_eqT0 hu) (opd_eqL0 hu)) (opd_eq hu)
def kEqU : D → D → (R → Prop) → Prop
  | .tuple ds, .tuple [], K => K (.val (.bool ds.isEmpty))
  | .list ds, .list [], K => K (.val (.bool ds.isEmpty))
  | a, b, K => kEq a b K
def oEqU : OpK := ⟨fEqU, kEqU, fun d1 d2 K h => by
  have key : (∃ ds, d1 = .tuple ds ∧ d2 = .tuple []) ∨ (∃ ds, d1 = .list ds ∧ d2 = .list []) ∨ (orF fEqT0 fEqL0 d1 d2 = none ∧ kEqU d1 d2 K = kEq d1 d2 K) := by
    cases d1 <;> cases d2 <;> first
      | exact .inr (.inr ⟨rfl, rfl⟩)
      | (rename_i a b
         cases b with
         | nil => first | exact .inl ⟨_, rfl, rfl⟩ | exact .inr (.inl ⟨_, rfl, rfl⟩)
         | cons x y => exact .inr (.inr ⟨rfl, rfl⟩))
  rcases key with ⟨ds, rfl, rfl⟩ | ⟨ds, rfl, rfl⟩ | ⟨e1, e2⟩
  · exact ⟨_, rfl, h⟩
  · exact ⟨_, rfl, h⟩
  · rw [e2] at h
    obtain ⟨z, e, hz⟩ := oEq.ok _ _ _ h
    refine ⟨z, ?_, hz⟩
    show (match orF fEqT0 fEqL0 d1 d2 with | some z => some z | none => fEq d1 d2) = some z
    rw [e1]
    exact e⟩
def mDNew : ME := fun r P => P (.own (.K [])) r
theorem de_dnew {pos : Pos} : DE X (.Dict [] [] pos) mDNew := fun e => PE.imp pe_dnewK fun s H Q ⟨F, r, k, P, hm, hP⟩ p hp => by
  refine hP _ r _ F (upd H p (.dK [])) hm (k.alloc hp) (Sub.refl F) ?_
  obtain ⟨h1, h2, h3⟩ := k.free hp
  exact .own upd_same (.K rfl .nil) h1 h2 h3 (k.nobox hp)
end
end DL
namespace DL
theorem okR2_of {i j : Int} (h1 : -1000000000000000000 ≤ i) (h2 : i ≤ 1000000000000000000) (h3 : -1000000000000000000 ≤ j) (h4 : j ≤ 1000000000000000000) : (okR i && okR j) = true := by rw [okR_of h1 h2, okR_of h3 h4]; rfl
end DL
namespace DL
end DL
namespace DL
open PySem L2 PyProof.Rows
end DL
namespace DL
open PySem L2 PyProof.Rows
/-- plain: texts of signs, no list, no dict -/
def Pl (d : D) : Prop := okD d ∧ noList d = true ∧ d.hasDict = false
def Pls (ds : List D) : Prop := ∀ d ∈ ds, Pl d
theorem noListA_iff : ∀ {ds : List D}, noListA ds = true ↔ ∀ d ∈ ds, noList d = true
  | [] => by simp [noListA]
  | d :: ds => by simp [noListA, noListA_iff (ds := ds)]
theorem Pl.tup {ds : List D} : Pl (.tuple ds) ↔ Pls ds := by
  unfold Pl Pls
  constructor
  · rintro ⟨h1, h2, h3⟩ d hd
    exact ⟨okDs_iff.mp h1 d hd, noListA_iff.mp h2 d hd, hasDictAll_iff.mp (by simpa [PyData.hasDict] using h3) d hd⟩
  · intro h
    refine ⟨okDs_iff.mpr fun d hd => (h d hd).1, noListA_iff.mpr fun d hd => (h d hd).2.1, ?_⟩
    have := hasDictAll_iff.mpr fun d hd => (h d hd).2.2
    simpa [PyData.hasDict] using this
/-- what comes of a plain thing of size n and depth k by one change -/
def Bt (n k : Nat) (o : D) : Prop := okD o ∧ wt o ≤ n ∧ o.depth ≤ k ∧ (noList o = true ∨ o.hasDict = false)
theorem Bt.mono {n k n' k' : Nat} {o : D} (h : Bt n k o) (h1 : n ≤ n') (h2 : k ≤ k') : Bt n' k' o := ⟨h.1, Nat.le_trans h.2.1 h1, Nat.le_trans h.2.2.1 h2, h.2.2.2⟩
theorem Pl.bt {d : D} (h : Pl d) : Bt (wt d) d.depth d := ⟨h.1, Nat.le_refl _, Nat.le_refl _, .inl h.2.1⟩
theorem Bt.repr {n k : Nat} {o : D} (h : Bt n k o) (h1 : n ≤ 1000000) (h2 : k ≤ 64) : reprOk o = true := by
  obtain ⟨a, b, c, d⟩ := h
  have := shown_le o a
  have e : sizeLine = 16777216 := sizeLine_eq
  unfold reprOk
  rw [ok_showable o a, decide_eq_true (by omega : o.shown.length ≤ sizeLine), decide_eq_true (by omega : o.depth ≤ 64)]
  rcases d with d | d
  · rw [d]; simp
  · rw [d]; rfl
theorem Bt.plain {C : List D} (hC : Pls C) : Bt (wts C + 4) (PyData.depthAll C + 1) (.tuple C) := by
  have := (Pl.tup.mpr hC).bt
  exact this.mono (by rw [wt]; omega) (by simp only [PyData.depth]; omega)
theorem Bt.list {C : List D} (hC : Pls C) : Bt (wts C + 4) (PyData.depthAll C + 1) (.list C) := by
  refine ⟨okDs_iff.mpr fun d hd => (hC d hd).1, by rw [wt]; omega, by simp only [PyData.depth]; omega, .inr ?_⟩
  have := hasDictAll_iff.mpr fun d hd => (hC d hd).2.2
  simpa [PyData.hasDict] using this
end DL
namespace DL
open PySem L2 PyProof.Rows
def dPut (kvs : List (D × D)) (k : Key) (d : D) : List (D × D) :=
  if (kvs.any fun p => decide (kOf p.1 = some k)) = true then kvs.map (fun p => if kOf p.1 = some k then (p.1, d) else p) else kvs ++ [(kD k, d)]
theorem put_ok {K : Fg} {F : Hp} {kvs : List (Key × V)} {ds : List (D × D)} {k : Key} {v : V} {d : D} (h1 : ds.map (·.1) = kvs.map (fun p => kD p.1)) (h2 : RpA K F (kvs.map (·.2)) (ds.map (·.2))) (hv : Rp K F v d) :
    (dPut ds k d).map (·.1) = (putK kvs k v).map (fun p => kD p.1) ∧ RpA K F ((putK kvs k v).map (·.2)) ((dPut ds k d).map (·.2)) := by
  have hany : ∀ {kvs : List (Key × V)} {ds : List (D × D)}, ds.map (·.1) = kvs.map (fun p => kD p.1) → (ds.any fun p => decide (kOf p.1 = some k)) = kvs.any fun p => decide (p.1 = k) := by
    intro kvs
    induction kvs with
    | nil => intro ds h; cases ds with | nil => rfl | cons _ _ => cases h
    | cons q kvs ih =>
      intro ds h
      cases ds with
      | nil => cases h
      | cons p ds =>
        simp only [List.map_cons, List.cons.injEq] at h
        have e : decide (kOf p.1 = some k) = decide (q.1 = k) := by rw [h.1, kOf_kD]; simp
        rw [List.any_cons, List.any_cons, ih h.2, e]
  have hmap : ∀ {kvs : List (Key × V)} {ds : List (D × D)}, ds.map (·.1) = kvs.map (fun p => kD p.1) → RpA K F (kvs.map (·.2)) (ds.map (·.2)) →
      (ds.map (fun p => if kOf p.1 = some k then (p.1, d) else p)).map (·.1) = (kvs.map (fun kv => if kv.1 = k then (kv.1, v) else kv)).map (fun p => kD p.1) ∧
      RpA K F ((kvs.map (fun kv => if kv.1 = k then (kv.1, v) else kv)).map (·.2)) ((ds.map (fun p => if kOf p.1 = some k then (p.1, d) else p)).map (·.2)) := by
    intro kvs
    induction kvs with
    | nil => intro ds h _; cases ds with | nil => exact ⟨rfl, .nil⟩ | cons _ _ => cases h
    | cons q kvs ih =>
      intro ds h r
      cases ds with
      | nil => cases h
      | cons p ds =>
        simp only [List.map_cons, List.cons.injEq] at h
        cases r with
        | cons r1 r2 =>
          obtain ⟨g1, g2⟩ := ih h.2 r2
          simp only [List.map_cons]
          by_cases e : q.1 = k
          · have e2 : kOf p.1 = some k := by rw [h.1, kOf_kD, e]
            rw [if_pos e, if_pos e2]
            exact ⟨by rw [g1]; simp only [h.1], .cons hv g2⟩
          · have e2 : ¬ kOf p.1 = some k := by rw [h.1, kOf_kD]; intro z; exact e (Option.some.inj z)
            rw [if_neg e, if_neg e2]
            exact ⟨by rw [g1]; simp only [h.1], .cons r1 g2⟩
  unfold dPut putK
  rw [hany h1]
  split
  · exact hmap h1 h2
  · rw [List.map_append, List.map_append, List.map_append, List.map_append, h1]
    exact ⟨rfl, h2.append (.cons hv .nil)⟩
/-- the dict of slot i -/
def bxD (r : Rho) (i : Nat) : Option (Bool × List (D × D)) := match r[i]? with
  | some (some (.box b (.K kvs))) => some (b, kvs)
  | _ => none
theorem bxD_of {r : Rho} {i : Nat} {q : Bool × List (D × D)} (h : bxD r i = some q) : r[i]? = some (some (.box q.1 (.K q.2))) := by
  unfold bxD at h
  split at h
  · rename_i b kvs e; cases h; exact e
  · cases h
def isDc (r : Rho) (i : Nat) : Bool := (bxD r i).isSome
theorem Ok.dct {K : Fg} {e : En} {F : Hp} {r : Rho} {s : L2.St} {H : Hp} {i : Nat} {b : Bool} {ds : List (D × D)} (k : Ok K e F r s H) (h : r[i]? = some (some (Ce.box b (.K ds)))) :
    ∃ p kvs, s[i]? = some (some (V.ref p)) ∧ H p = some (.dK kvs) ∧ ds.map (·.1) = kvs.map (fun p => kD p.1) ∧ RpA K F (kvs.map (·.2)) (ds.map (·.2)) ∧ F p = none := by
  obtain ⟨p, o, h1, h2, h3, h4, _⟩ := k.box i b _ h
  cases h3 with
  | K q1 q2 => exact ⟨p, _, h1, h2, q1, q2, h4⟩
section
variable {X : Cx} {a b c : Expr} {ma mb mc : ME} {pos pos' p p' apos : Pos} {x : Str} {i : Nat}
/-- k in x, k not in x -/
def mDIn (neg : Bool) (i : Nat) (mb : ME) : ME := fun r P => mb r fun y r1 => onP (bxD r1 i) fun _ kvs => onO (look r1 y.tmp) fun d => onO (kOf d) fun k => P (.val (.bool (xor neg (dGet kvs k).isSome))) r1
theorem din_read {e : En} {neg : Bool} {s : L2.St} {H : Hp} {Q : VK} (h : T X.K e (mDIn neg i mb) s H Q) :
    (Tt X.K e (mTmp mb)) s H fun y H1 => tVar i s H1 fun x H2 => ∃ a o, x = .ref a ∧ DGet H2 a y o ∧ Q (.bl (xor neg o.isSome)) H2 := by
  obtain ⟨F, r, k, P, hm, hP⟩ := h
  refine ⟨F, r, k, fun y r1 => onP (bxD r1 i) fun _ kvs => onO (look r1 y) fun d => onO (kOf d) fun k => P (.val (.bool (xor neg (dGet kvs k).isSome))) r1, hm, fun y r1 v F1 H1 hy k1 q1 t1 => ?_⟩
  obtain ⟨bb, kvs, e1, h1⟩ := onP.ex hy
  obtain ⟨d, e2, h2⟩ := onO.ex h1
  obtain ⟨kk, e3, h3⟩ := onO.ex h2
  obtain ⟨ad, vs, g1, g2, g3, g4, _⟩ := k1.dct (bxD_of e1)
  have lk := (t1.look k1 e2).key e3
  subst lk
  refine ⟨.ref ad, g1, ad, valV vs kk, rfl, .k g2, ?_⟩
  have : (valV vs kk).isSome = (dGet kvs kk).isSome := by
    rcases val_get (k := kk) g3 g4 with ⟨z1, z2⟩ | ⟨_, _, z1, z2, _⟩ <;> rw [z1, z2] <;> rfl
  rw [this]
  exact hP _ r1 _ F1 H1 h3 k1 q1 (.val (.bl _))
theorem dt_dnotin (hu : X.A.units + 1 < cLine) (hN : X.N[i]? = some x) (hv : Vis X.env.scope x) (hb : DE X b mb) (hmk : behindInMarks .NotIn (.Name x p) = false := by rfl) (hd : (x == ("__debug__" : Str)) = false := by decide) (hcd : (x == ("__classdict__" : Str)) = false := by decide) : DT X (.Compare b [.NotIn] [.Name x p] pos) (mTest (mDIn true i mb)) := fun e =>
  PT.imp (pt_cmp (pc_dnotin hu (hb.tmp e) (pe_var hN hv hd hcd)) hmk) fun s H Q h => tTest_of (t := tDNotIn (Tt X.K e (mTmp mb)) (tVar i)) (fun s H Q h => by
    have := din_read h
    simp only [Bool.true_xor] at this
    exact this) h
theorem PE.or {t u : TE} (h : PE X a t) (g : PE X a u) : PE X a (fun s H Q => t s H Q ∨ u s H Q) := ⟨fun pins s σ H Q I q => q.elim (h.run pins s σ H Q I) (g.run pins s σ H Q I)⟩
theorem PT.or {t u : TT} (h : PT X a t) (g : PT X a u) : PT X a (fun s H Q => t s H Q ∨ u s H Q) := ⟨fun pins s σ H Q I q => q.elim (h.run pins s σ H Q I) (g.run pins s σ H Q I)⟩
theorem PS.or {st : Stmt} {t u : TS} (h : PS X st t) (g : PS X st u) : PS X st (fun D s H => t D s H ∨ u D s H) := ⟨fun pins s σ H D I q => q.elim (h.run pins s σ H D I) (g.run pins s σ H D I)⟩
def mSel (i : Nat) (m n : ME) : ME := fun r P => match isDc r i with
  | true => m r P
  | false => n r P
theorem de_sel {m n : ME} (h : DE X a m) (g : DE X a n) : DE X a (mSel i m n) := fun e => PE.imp (PE.or (h e) (g e)) fun s H Q ⟨F, r, k, P, hm, hP⟩ => by
  unfold mSel at hm
  split at hm
  · exact .inl ⟨F, r, k, P, hm, hP⟩
  · exact .inr ⟨F, r, k, P, hm, hP⟩
def tSel (i : Nat) (m n : MT) : MT := fun r P => match isDc r i with
  | true => m r P
  | false => n r P
theorem dt_sel {m n : MT} (h : DT X a m) (g : DT X a n) : DT X a (tSel i m n) := fun e => PT.imp (PT.or (h e) (g e)) fun s H Q ⟨F, r, k, P, hm, hP⟩ => by
  unfold tSel at hm
  split at hm
  · exact .inl ⟨F, r, k, P, hm, hP⟩
  · exact .inr ⟨F, r, k, P, hm, hP⟩
def sSel (i : Nat) (m n : MS) : MS := fun r O => match isDc r i with
  | true => m r O
  | false => n r O
theorem ds_sel {st : Stmt} {m n : MS} (h : DS X st m) (g : DS X st n) : DS X st (sSel i m n) := fun e => PS.imp (PS.or (h e) (g e)) fun D s H ⟨F, r, k, O, hm, hP⟩ => by
  unfold sSel at hm
  split at hm
  · exact .inl ⟨F, r, k, O, hm, hP⟩
  · exact .inr ⟨F, r, k, O, hm, hP⟩
/-- the pairs, one by one -/
def strictK (l : List (D × D)) (K : List (D × D) → Prop) : Prop := match l with
  | [] => K []
  | (a, b) :: l => strictK l fun l' => K ((a, b) :: l')
theorem strictK.ex : ∀ {l : List (D × D)} {K : List (D × D) → Prop}, strictK l K → K l
  | [], _, h => h
  | d :: l, K, h => strictK.ex (l := l) (K := fun l' => K (d :: l')) h
theorem strictK_mk : ∀ {l : List (D × D)} {K : List (D × D) → Prop}, K l → strictK l K
  | [], _, h => h
  | d :: l, K, h => strictK_mk (l := l) (K := fun l' => K (d :: l')) h
def KDPut (i : Nat) (d : D) (O : Out) (y : R) (r : Rho) : Prop := onO (look r y) fun z => onO (kOf z) fun k => onP (bxD r i) fun ba kvs => Rq (kvs.length < sizeLine) (strictK (dPut kvs k d) fun l => strict (r.set i (some (.box ba (.K l)))) O.nx)
def sDPutK (i : Nat) (ma mb : ME) : MS := fun r O => ma r fun x r1 => onP (hold r1 x.tmp) fun qa qb => rqB (isDc qb i) (mb qb fun y r3 => KDPut i qa O y.tmp r3)
theorem ds_dput (hu : X.A.units + 1 < cLine) (hN : X.N[i]? = some x) (hv : Vis X.env.scope x) (ha : DE X a ma) (hb : DE X b mb) (hd : (x == ("__debug__" : Str)) = false := by decide) (hcd : (x == ("__classdict__" : Str)) = false := by decide)
    (hs : swapsWith a (some (.Subscript (.Name x p) b pos')) pos.line X.env = pure false := by rfl) : DS X (.Assign [.Subscript (.Name x p) b pos'] a pos) (sDPutK i ma mb) := fun e =>
  PS.imp (ps_dput hu (pe_var hN hv hd hcd) (hb.tmp e) (ha.tmp e) hs) fun D s H ⟨F, r, k, O, hm, h⟩ => ⟨F, r, k, fun x r1 => onP (hold r1 x) fun qa qb => rqB (isDc qb i) (mb qb fun y r3 => KDPut i qa O y.tmp r3), hm, fun x r1 v F1 H1 hx k1 q t => by
    obtain ⟨d, r2, eh, hx2⟩ := onP.ex hx
    obtain ⟨hl, hp⟩ := rqB.ex hx2
    obtain ⟨F2, k2, q2, rp⟩ := t.hold k1 eh
    cases hb0 : bxD r2 i with
    | none => unfold isDc at hl; rw [hb0] at hl; cases hl
    | some q0 =>
    obtain ⟨pp, vs0, g1, _⟩ := k2.dct (bxD_of hb0)
    refine ⟨.ref pp, g1, F2, r2, k2, fun y r3 => KDPut i d O y r3, hp, ?_⟩
    intro y r3 v3 F3 H3 hy k3 q3 t3
    obtain ⟨z, e1, hy1⟩ := onO.ex hy
    obtain ⟨kk, e2, hy2⟩ := onO.ex hy1
    obtain ⟨ba, kvs, e3, hy3⟩ := onP.ex hy2
    have hlen := Rq.c hy3
    have hn := (Rq.a hy3).ex.ex
    obtain ⟨pp', vs, w1, w2, w3, w4, w5⟩ := k3.dct (bxD_of e3)
    rw [g1] at w1; cases w1
    have lk := (t3.look k3 e1).key e2
    subst lk
    have l2 : vs.length = kvs.length := by
      have := congrArg List.length w3
      simpa using this.symm
    obtain ⟨p1, p2⟩ := put_ok (k := kk) w3 w4 (rp.mono q3)
    refine ⟨pp, _, rfl, .k w2 (by omega), ?_⟩
    exact h.nx _ s F3 _ hn (k3.write (bxD_of e3) g1 (.K p1 p2)) ((q.trans q2).trans q3)⟩
theorem Lk.dK {K : Fg} {F H : Hp} {v : V} {m : MB} {ds : List (D × D)} (h : ∃ p o, v = .ref p ∧ H p = some o ∧ MO K F o m) (e : m = .K ds) : ∃ a kvs, v = .ref a ∧ H a = some (.dK kvs) ∧ ds.map (·.1) = kvs.map (fun p => kD p.1) ∧ RpA K F (kvs.map (·.2)) (ds.map (·.2)) := by
  obtain ⟨p, o, h1, h2, h3⟩ := h
  subst e
  cases h3 with
  | K q1 q2 => exact ⟨p, _, h1, h2, q1, q2⟩
def mDLen (i : Nat) : ME := fun r P => onP (bxD r i) fun _ kvs => P (.val (.int kvs.length)) r
theorem de_dlen (hg : Gl X "len") (hm : X.mg "len" = none) (hN : X.N[i]? = some x) (hv : Vis X.env.scope x) (hs : starEach [.Name x p] X.env = [(false, eval (.Name x p) X.env)] := by rfl) (hpl : (backTo pos (starEach [] X.env)).any (·.1) = false := by rfl) (hd : (x == ("__debug__" : Str)) = false := by decide) (hcd : (x == ("__classdict__" : Str)) = false := by decide) :
    DE X (.Call (.Name "len" p') [.Name x p] [] pos) (mDLen i) := fun e =>
  PE.imp (pe_callB call_lenD hg hm boot_len (pa_cons (pe_var hN hv hd hcd) pa_nil hs)) fun s H Q ⟨F, r, k, P, hm, hP⟩ => by
    obtain ⟨bb, kvs, e1, h1⟩ := onP.ex hm
    obtain ⟨ad, vs, w1, w2, w3, w4, _⟩ := k.dct (bxD_of e1)
    have l2 : vs.length = kvs.length := by
      have := congrArg List.length w3
      simpa using this.symm
    refine ⟨.ref ad, w1, ad, vs, rfl, w2, ?_⟩
    rw [l2]
    exact hP _ r _ F H h1 k (Sub.refl F) (.val (.int _))
end
end DL
namespace DL
open PySem L2 PyProof.Rows
end DL
namespace DL
open PySem L2 PyProof.Rows
def lcM2 (vs vs1 : List Nat) (g : GT) (tt : MT) (mi1 : MI) (g1 : GT) (tt1 : MT) (te : ME) (P : List D → Rho → Prop) : List D → List D → Rho → Prop
  | [], acc, r => P acc r
  | d :: ds, acc, r => onS (g d r) fun r1 => tt r1 fun b r2 => brK b (mi1 r2 fun ds1 r3 => strict (wipeR r3 vs1) fun r4 => Lc vs1 g1 tt1 te (fun acc' r' => strict (wipeR r' vs) fun r5 => lcM2 vs vs1 g tt mi1 g1 tt1 te P ds acc' r5) ds1 acc r4) (strict (wipeR r2 vs) fun r4 => lcM2 vs vs1 g tt mi1 g1 tt1 te P ds acc r4)
structure Lc2 (vs vs1 : List Nat) (g : GT) (tt : MT) (mi1 : MI) (g1 : GT) (tt1 : MT) (te : ME) (P : List D → Rho → Prop) (ds acc : List D) (r : Rho) : Prop where
  h : lcM2 vs vs1 g tt mi1 g1 tt1 te P ds acc r
def mLc2 (vs vs1 : List Nat) (mi : MI) (g : GT) (tt : MT) (mi1 : MI) (g1 : GT) (tt1 : MT) (te : ME) : ME := fun r P => mi r fun ds r1 => rqB (noBox r1 vs) (strict (wipeR r1 vs) fun r0 => Lc2 vs vs1 g tt mi1 g1 tt1 te (fun acc r2 => strict (backR r2 r1 vs) fun r3 => P (.own (.L acc)) r3) ds [] r0)
theorem wipe_sub {s : L2.St} {vs vs1 : List Nat} (h : ∀ i ∈ vs1, i ∈ vs) : wipe (wipe s vs1) vs = wipe s vs := by
  apply List.ext_getElem?
  intro j
  rw [wipe_get, wipe_get, wipe_get, wipe_length]
  by_cases h1 : j ∈ vs ∧ j < s.length
  · rw [if_pos h1, if_pos h1]
  · rw [if_neg h1, if_neg h1, if_neg fun z => h1 ⟨h j z.1, z.2⟩]
section
variable {X : Cx} {elt tg iter tg1 iter1 c : Expr} {ifs ifs1 : List Expr} {scope : Scope} {own : List (Str × Nat)} {pos : Pos} {mi mi1 : MI} {g g1 : GT} {tt tt1 : MT} {te : ME} {vs vs1 : List Nat}
theorem lc2_read {e : En} (hvs : vs = own.map (·.2)) (hsub : ∀ i ∈ vs1, i ∈ vs) {s : L2.St} {H : Hp} {Q : VK} (h : T X.K e (mLc2 vs vs1 mi g tt mi1 g1 tt1 te) s H Q) :
    ∀ (tg' : TG) (tt' : TT) (wi' : TI) (tg1' : TG) (tt1' : TT) (te' : TE), (∀ e', ∀ v s H Q, TGt X.K e' vs g v s H Q → tg' v s H Q) → (∀ e', ∀ s H Q, TB X.K e' tt s H Q → tt' s H Q) → (∀ e', ∀ s H Q, TIt X.K e' mi1 s H Q → wi' s H Q) →
      (∀ e', ∀ v s H Q, TGt X.K e' vs1 g1 v s H Q → tg1' v s H Q) → (∀ e', ∀ s H Q, TB X.K e' tt1 s H Q → tt1' s H Q) → (∀ e', ∀ s H Q, Tt X.K e' (mTmp te) s H Q → te' s H Q) → tLc2 (TIt X.K e mi) tg' tt' wi' tg1' tt1' te' (own.map (·.2)) vs1 s H Q := by
  intro tg' tt' wi' tg1' tt1' te' i1 i2 i6 i4 i5 i3
  rw [← hvs]
  obtain ⟨F, r, k, P, hm, hP⟩ := h
  refine ⟨F, r, k, _, hm, fun ds r1 F1 H1 J hx k1 q1 ok p hp => ?_⟩
  obtain ⟨nb, hx2⟩ := rqB.ex hx
  have hl := hx2.ex.h
  clear hx hx2
  have fr := k1.free hp
  have hF0 : e.F0 p = none := by
    cases q : e.F0 p with
    | none => rfl
    | some u => rw [k1.f0 p u q] at fr; cases fr.1
  generalize hPP : (fun (acc : List D) (r2 : Rho) => strict (backR r2 r1 vs) fun r3 => P (.own (.L acc)) r3) = PP at hl
  refine ⟨fun i m H => ∃ F r xs acc, Ok X.K (e.keep p (.lst xs)) F r (wipe s vs) H ∧ Sub F1 F ∧ RpA X.K F xs acc ∧ i ≤ ds.length ∧ m = ds.length - i ∧ lcM2 vs vs1 g tt mi1 g1 tt1 te PP (ds.drop i) acc r, ?_, ?_⟩
  · have kw : Ok X.K e F1 (wipeR r1 vs) (wipe s vs) (upd H1 p (.lst [])) := (k1.wipe vs).alloc hp
    exact ⟨_, F1, _, [], [], kw.keep upd_same fr.1 ((k1.wipe vs).nobox hp), Sub.refl _, .nil, Nat.zero_le _, rfl, by rw [List.drop_zero]; exact hl⟩
  · rintro i m H2 ⟨F2, r2, xs, acc, k2, q2, ra, hi, rfl, hl2⟩
    by_cases hn : i < ds.length
    · refine .inr ⟨ok.go i H2 (q2.trans k2.sub) hn, fun H => ∃ F r xs acc, Ok X.K (e.keep p (.lst xs)) F r (wipe s vs) H ∧ Sub F1 F ∧ RpA X.K F xs acc ∧ lcM2 vs vs1 g tt mi1 g1 tt1 te PP (ds.drop (i + 1)) acc r, fun H3 ⟨F3, r3, xs3, acc3, k3, q3, ra3, hl3⟩ => ⟨_, by omega, F3, r3, xs3, acc3, k3, q3, ra3, hn, rfl, hl3⟩, fun x H3 hy => ?_⟩
      obtain ⟨d, ed, F3, k3, q3, rp⟩ := ok.yld i H2 x H3 hy _ F2 r2 _ k2 q2 hn
      rw [drop_cons ed] at hl2
      obtain ⟨r4, eg, hb4⟩ := onS.ex hl2
      refine i1 _ _ _ _ _ ⟨F3, r2, d, r4, k3, rp, eg, fun s5 F5 H5 k5 q5 w5 => ⟨w5.trans ?_, i2 _ _ _ _ ⟨F5, r4, k5, _, hb4, fun b r6 F6 H6 hb6 k6 q6 => ?_⟩⟩⟩
      · apply List.ext_getElem?
        intro j
        rw [wipe_get, wipe_get, wipe_length]
        split <;> rfl
      · have ww : wipe s5 vs = wipe s vs := w5.trans (by
          apply List.ext_getElem?
          intro j
          rw [wipe_get, wipe_get, wipe_length]
          split <;> rfl)
        have q16 : Sub F1 F6 := ((q2.trans q3).trans q5).trans q6
        have q26 : Sub F2 F6 := (q3.trans q5).trans q6
        cases b with
        | false =>
          have hb6 := strict.ex hb6
          refine iteF ?_
          refine ⟨F6, _, xs, acc, ?_, q16, ra.mono q26, hb6⟩
          rw [← ww]
          exact k6.wipe vs
        | true =>
          refine iteT ?_
          refine i6 _ _ _ _ ⟨F6, r6, k6, _, hb6, fun ds1 r7 F7 H7 J1 hx7 k7 q7 ok1 => ?_⟩
          have hl7 := (strict.ex hx7).h
          have q17 : Sub F1 F7 := q16.trans q7
          have q27 : Sub F2 F7 := q26.trans q7
          generalize hRR : (fun (acc' : List D) (r' : Rho) => strict (wipeR r' vs) fun r5 => lcM2 vs vs1 g tt mi1 g1 tt1 te PP (ds.drop (i + 1)) acc' r5) = RR at hl7
          refine ⟨fun j m H => ∃ F r xs acc, Ok X.K (e.keep p (.lst xs)) F r (wipe s5 vs1) H ∧ Sub F7 F ∧ RpA X.K F xs acc ∧ j ≤ ds1.length ∧ m = ds1.length - j ∧ lcM vs1 g1 tt1 te RR (ds1.drop j) acc r, ?_, ?_⟩
          · exact ⟨_, F7, _, xs, acc, k7.wipe vs1, Sub.refl _, ra.mono q27, Nat.zero_le _, rfl, by rw [List.drop_zero]; exact hl7⟩
          · rintro j m H8 ⟨F8, r8, xs8, acc8, k8, q8, ra8, hj, rfl, hl8⟩
            by_cases hn1 : j < ds1.length
            · refine .inr ⟨ok1.go j H8 (q8.trans k8.sub) hn1, fun H => ∃ F r xs acc, Ok X.K (e.keep p (.lst xs)) F r (wipe s5 vs1) H ∧ Sub F7 F ∧ RpA X.K F xs acc ∧ lcM vs1 g1 tt1 te RR (ds1.drop (j + 1)) acc r, fun H9 ⟨F9, r9, xs9, acc9, k9, q9, ra9, hl9⟩ => ⟨_, by omega, F9, r9, xs9, acc9, k9, q9, ra9, hn1, rfl, hl9⟩, fun x9 H9 hy9 => ?_⟩
              obtain ⟨d9, ed9, F9, k9, q9, rp9⟩ := ok1.yld j H8 x9 H9 hy9 _ F8 r8 _ k8 q8 hn1
              rw [drop_cons ed9] at hl8
              obtain ⟨ra4, eg9, hb9⟩ := onS.ex hl8
              refine i4 _ _ _ _ _ ⟨F9, r8, d9, ra4, k9, rp9, eg9, fun s10 F10 H10 k10 q10 w10 => ⟨w10.trans ?_, i5 _ _ _ _ ⟨F10, ra4, k10, _, hb9, fun b r11 F11 H11 hb11 k11 q11 => ?_⟩⟩⟩
              · apply List.ext_getElem?
                intro j
                rw [wipe_get, wipe_get, wipe_length]
                split <;> rfl
              · have ww1 : wipe s10 vs1 = wipe s5 vs1 := w10.trans (by
                  apply List.ext_getElem?
                  intro j
                  rw [wipe_get, wipe_get, wipe_length]
                  split <;> rfl)
                have q711 : Sub F7 F11 := ((q8.trans q9).trans q10).trans q11
                have q811 : Sub F8 F11 := (q9.trans q10).trans q11
                cases b with
                | false =>
                  have hb11 := strict.ex hb11
                  refine iteF ?_
                  refine ⟨F11, _, xs8, acc8, ?_, q711, ra8.mono q811, hb11⟩
                  rw [← ww1]
                  exact k11.wipe vs1
                | true =>
                  refine iteT ?_
                  refine i3 _ _ _ _ ⟨F11, r11, k11, fun x r3 => onP (hold r3 x) fun qa qb => Rq (acc8.length < sizeLine) (strict (wipeR qb vs1) fun r4 => lcM vs1 g1 tt1 te RR (ds1.drop (j + 1)) (acc8 ++ [qa]) r4), hb11, fun y r12 v12 F12 H12 hx12 k12 q12 t12 => ?_⟩
                  obtain ⟨d', r13, eh, hx13⟩ := onP.ex hx12
                  have hz := Rq.c hx13
                  have hl13 := (Rq.a hx13).ex
                  obtain ⟨F13, k13, q13, rp13⟩ := t12.hold k12 eh
                  obtain ⟨_, gg1, _, _⟩ := k13.unkeep fr.2.1 hF0
                  have q813 : Sub F8 F13 := (q811.trans q12).trans q13
                  refine ⟨xs8, gg1, by rw [ra8.length]; exact hz, F13, _, xs8 ++ [v12], acc8 ++ [d'], ?_, (q711.trans q12).trans q13, (ra8.mono q813).append (.cons rp13 .nil), hl13⟩
                  rw [← ww1]
                  exact (k13.rekeep fr.2.1 hF0).wipe vs1
            · have e0 : j = ds1.length := by omega
              subst e0
              rw [List.drop_length] at hl8
              refine .inl ⟨ok1.stop _ H8 (q8.trans k8.sub) (Nat.le_refl _), F8, wipeR r8 vs, xs8, acc8, ?_, q17.trans q8, ra8, ?_⟩
              · have := k8.wipe vs
                rw [wipe_sub hsub, ww] at this
                exact this
              · have h9 : RR acc8 r8 := hl8
                rw [← hRR] at h9
                exact strict.ex h9
    · have e0 : i = ds.length := by omega
      subst e0
      rw [List.drop_length] at hl2
      have hl2' : PP acc r2 := hl2
      rw [← hPP] at hl2'
      obtain ⟨k3, g1, g2, g3⟩ := k2.unkeep fr.2.1 hF0
      have kb := k1.back nb k3 q2
      refine .inl ⟨ok.stop _ H2 (q2.trans k2.sub) (Nat.le_refl _), hP _ _ _ F2 H2 (strict.ex hl2') kb (q1.trans q2) (.own g1 (.L ra) g2 fr.2.1 fr.2.2 (nb_back (k2.len.trans (wipe_length s vs)) nb g3))⟩
theorem de_lc2 (hc : X.calm = true) (hN : X.N.Nodup) (hi : DI X tg iter mi) (ok : BlkOk X.N X.env.scope scope own) (hv : ∀ i ∈ vs1, i ∈ own.map (·.2))
    (hg : ∀ (s : Shared) (H : Hp) (C : Addr) (cl : List (Str × Addr)) (fp : List Addr), DG (X.blk s H scope (compEnvC scope cl C X.env) fp) tg (own.map (·.2)) g) (ht : ∀ (s : Shared) (H : Hp) (C : Addr) (cl : List (Str × Addr)) (fp : List Addr), DTs (X.blk s H scope (compEnvC scope cl C X.env) fp) ifs tt)
    (hi1 : ∀ (s : Shared) (H : Hp) (C : Addr) (cl : List (Str × Addr)) (fp : List Addr), DI (X.blk s H scope (compEnvC scope cl C X.env) fp) tg1 iter1 mi1)
    (hg1 : ∀ (s : Shared) (H : Hp) (C : Addr) (cl : List (Str × Addr)) (fp : List Addr), DG (X.blk s H scope (compEnvC scope cl C X.env) fp) tg1 vs1 g1) (ht1 : ∀ (s : Shared) (H : Hp) (C : Addr) (cl : List (Str × Addr)) (fp : List Addr), DTs (X.blk s H scope (compEnvC scope cl C X.env) fp) ifs1 tt1)
    (he : ∀ (s : Shared) (H : Hp) (C : Addr) (cl : List (Str × Addr)) (fp : List Addr), DE (X.blk s H scope (compEnvC scope cl C X.env) fp) elt te) (hs : ∀ x, foldedSetIterable iter X.env x = pure x := by intro _; rfl) (hs1 : ∀ env x, foldedSetIterable iter1 env x = pure x := by intro _ _; rfl) :
    DE X (.ListComp elt [⟨tg, iter, ifs, 0⟩, ⟨tg1, iter1, ifs1, 0⟩] scope pos) (mLc2 (own.map (·.2)) vs1 mi g tt mi1 g1 tt1 te) := fun e => by
  refine PE.imp (pe_lc2 (vs1 := vs1) (g := fun v s H Q => ∃ e', TGt X.K e' (own.map (·.2)) g v s H Q) (tt := fun s H Q => ∃ e', TB X.K e' tt s H Q) (wi1 := fun s H Q => ∃ e', TIt X.K e' mi1 s H Q) (g1 := fun v s H Q => ∃ e', TGt X.K e' vs1 g1 v s H Q) (tt1 := fun s H Q => ∃ e', TB X.K e' tt1 s H Q) (te := fun s H Q => ∃ e', Tt X.K e' (mTmp te) s H Q) hc hN (hi e) ok hv
    (fun s H C cl fp => ⟨fun pins s σ H v u Q I r ⟨e', q⟩ => (hg _ _ C cl fp e').run pins s σ H v u Q I r q⟩) (fun s H C cl fp => ⟨fun pins s σ H Q I ⟨e', q⟩ => (ht _ _ C cl fp e').run pins s σ H Q I q⟩)
    (fun s H C cl fp => ⟨fun pins s σ H R I ⟨e', q⟩ => (hi1 _ _ C cl fp e').run pins s σ H R I q⟩)
    (fun s H C cl fp => ⟨fun pins s σ H v u Q I r ⟨e', q⟩ => (hg1 _ _ C cl fp e').run pins s σ H v u Q I r q⟩) (fun s H C cl fp => ⟨fun pins s σ H Q I ⟨e', q⟩ => (ht1 _ _ C cl fp e').run pins s σ H Q I q⟩)
    (fun s H C cl fp => ⟨fun pins s σ H Q I ⟨e', q⟩ => ((he _ _ C cl fp).tmp e').run pins s σ H Q I q⟩) hs hs1) ?_
  exact fun s H Q h => lc2_read rfl hv h _ _ _ _ _ _ (fun e' _ _ _ _ q => ⟨e', q⟩) (fun e' _ _ _ q => ⟨e', q⟩) (fun e' _ _ _ q => ⟨e', q⟩) (fun e' _ _ _ _ q => ⟨e', q⟩) (fun e' _ _ _ q => ⟨e', q⟩) fun e' _ _ _ q => ⟨e', q⟩
end
end DL
namespace DL
open PySem L2 PyProof.Rows
end DL
namespace DL
open PySem L2 PyProof.Rows
end DL
namespace DL
open PySem PySem.Spec L2 PyProof.Rows
end DL
namespace DL
open PySem L2 PyProof.Rows
theorem dGet_cons (p : D × D) (kvs : List (D × D)) (k : Key) : dGet (p :: kvs) k = if kOf p.1 = some k then some p.2 else dGet kvs k := by
  unfold dGet
  rw [List.find?_cons]
  by_cases h : kOf p.1 = some k
  · simp [h]
  · simp [h]
theorem dGet_map (k : Key) (d : D) (k' : Key) : ∀ kvs : List (D × D), dGet (kvs.map fun p => if kOf p.1 = some k then (p.1, d) else p) k' = if k = k' then (if (kvs.any fun p => decide (kOf p.1 = some k)) = true then some d else none) else dGet kvs k'
  | [] => by simp [dGet]
  | p :: kvs => by
    rw [List.map_cons, dGet_cons, dGet_map k d k' kvs, List.any_cons, dGet_cons]
    by_cases h : kOf p.1 = some k
    · by_cases hk : k = k'
      · subst hk; simp [h]
      · have : ¬ kOf p.1 = some k' := by rw [h]; simpa using hk
        simp [h, hk]
    · by_cases hk : k = k'
      · subst hk
        rw [if_neg h, if_neg h, if_pos rfl, if_pos rfl, decide_eq_false h, Bool.false_or]
      · simp [h, hk]
theorem dGet_any (k : Key) : ∀ kvs : List (D × D), (kvs.any fun p => decide (kOf p.1 = some k)) = (dGet kvs k).isSome
  | [] => by simp [dGet]
  | p :: kvs => by
    rw [List.any_cons, dGet_any k kvs, dGet_cons]
    by_cases h : kOf p.1 = some k <;> simp [h]
theorem dGet_app (k : Key) (d : D) (k' : Key) : ∀ kvs : List (D × D), dGet (kvs ++ [(kD k, d)]) k' = match dGet kvs k' with
    | some z => some z
    | none => if k = k' then some d else none
  | [] => by
    rw [List.nil_append, dGet_cons]
    by_cases h : k = k' <;> simp [kOf_kD, dGet, h]
  | p :: kvs => by
    rw [List.cons_append, dGet_cons, dGet_cons, dGet_app k d k' kvs]
    by_cases h : kOf p.1 = some k' <;> simp [h]
theorem dGet_put (kvs : List (D × D)) (k k' : Key) (d : D) : dGet (dPut kvs k d) k' = if k = k' then some d else dGet kvs k' := by
  unfold dPut
  split
  · rename_i h
    rw [dGet_map]
    simp only [h, if_true]
  · rename_i h
    rw [dGet_app]
    rw [dGet_any, Bool.not_eq_true, Option.isSome_eq_false_iff, Option.isNone_iff_eq_none] at h
    by_cases hk : k = k'
    · subst hk; rw [h]
    · simp only [hk, if_false]
      cases dGet kvs k' <;> rfl
theorem keyed_put (kvs : List (D × D)) (k : Key) (d : D) (h : keyed kvs = true) : keyed (dPut kvs k d) = true := by
  unfold keyed at h ⊢
  unfold dPut
  rw [List.all_eq_true] at h ⊢
  split
  · intro p hp
    obtain ⟨q, hq, rfl⟩ := List.mem_map.mp hp
    have := h q hq
    split <;> exact this
  · intro p hp
    rcases List.mem_append.mp hp with hp | hp
    · exact h p hp
    · rw [List.mem_singleton.mp hp]
      show (kOf (kD k)).isSome = true
      rw [kOf_kD]; rfl
theorem len_put (kvs : List (D × D)) (k : Key) (d : D) : (dPut kvs k d).length = kvs.length + (if (dGet kvs k).isSome = true then 0 else 1) := by
  unfold dPut
  rw [dGet_any]
  split <;> rename_i h
  · simp
  · simp
end DL
namespace DL
open PySem L2 PySem.Spec PyProof.Rows
end DL
namespace DL
open PySem L2 PyProof.Rows PpSet
end DL
namespace DL
open PySem L2 PyProof.Rows
end DL
namespace DL
open PySem L2 PyProof.Rows
end DL
namespace DL
open PySem L2 PyProof.Rows
section
variable {X : Cx} {st : Stmt}
/-- a statement that is never come to -/
def sNo : MS := fun _ _ => False
theorem ds_no : DS X st sNo := fun e => ⟨fun pins s σ H D I h => by
  obtain ⟨F, r, k, O, hm, _⟩ := h
  exact hm.elim⟩
end
mutual
theorem eqv_self : ∀ d : D, d.hasDict = false → PyData.eqv d d = true
  | .none, _ => by simp [PyData.eqv]
  | .bool b, _ => by simp [PyData.eqv]
  | .int i, _ => by simp [PyData.eqv]
  | .str x, _ => by simp [PyData.eqv]
  | .list xs, h => by rw [PyData.eqv]; exact eqvAll_self xs (by simpa [PyData.hasDict] using h)
  | .tuple xs, h => by rw [PyData.eqv]; exact eqvAll_self xs (by simpa [PyData.hasDict] using h)
  | .dict kvs, h => by simp [PyData.hasDict] at h
theorem eqvAll_self : ∀ ds : List D, PyData.hasDictAll ds = false → PyData.eqvAll ds ds = true
  | [], _ => by simp [PyData.eqvAll]
  | d :: ds, h => by
    simp only [PyData.hasDictAll, Bool.or_eq_false_iff] at h
    rw [PyData.eqvAll, eqv_self d h.1, eqvAll_self ds h.2]; rfl
end
end DL
namespace DL
open PySem L2 PyProof.Rows
section
variable {K : Fg} {x qual : Str} {params : Arguments} {body : List Stmt} {scope : Scope} {dvs : List V} {kws : List (Str × V)} {f : Addr} {fd : FuncData} {ps : List Str}
/-- by places and by names, of a def with defaults by place (behind the keywords' values stand all of them); no keyword-only one lacks -/
theorem Bd.pos {dds : List D} (F : FunD K x qual params body scope dvs kws f fd) (n : Nat) (ks : List Str) (ix : List (Bool × Nat)) (hd : dvs ≠ []) (hf : Flats dvs dds) (hl : ix.length = ps.length) (ho : ixOk n (ks.length + dvs.length) ix = true)
    (h : ∀ (T : Addr) (kV doc pm : Value) (an : Option Addr) (cdv ct : Value) (us ws its : List Value), us.length = n → ws.length = ks.length → its.length = dvs.length →
      ∃ k, bindArgs (PySem.W.fnOf x qual params body scope (.ref T) kV doc pm an cdv ct) ⟨us, ks.zip ws⟩ = seqItems? (.ref T) >>= k ∧ k (some its.toArray) = pure (ps.zip (DL.pick ix us (ws ++ its)))) : Bd K fd ps n ks (fun xs zs => DL.pick ix xs (zs ++ dds.map R.val)) := by
  obtain ⟨oc, od, dV, kV, doc, pm, an, cdv, ct, osl, rfl, lk, hcd, hD, hK⟩ := F.ex
  rcases hD with ⟨e, _⟩ | ⟨_, T, o, its, m, rfl, lT, oT, rT⟩
  · exact absurd e hd
  · have l3 : its.length = dvs.length := rT.length.symm
    refine ⟨fun us ws => DL.pick ix us (ws ++ its), fun vs zs => DL.pick ix vs (zs ++ dvs), ⟨fun s us ws X l1 l2 => ?_, fun r q => pick_vals r (q.append rT) ix⟩, fun vs zs l1 l2 => ?_, fun F s xs vs zs ws t q _ _ => pick_rts t (q.append hf.rts) ix⟩
    · obtain ⟨k, e1, e2⟩ := h T kV doc pm an cdv ct us ws its l1 l2 l3
      refine BindsTo.of_looks fun M => ?_
      rw [e1]
      exact looks_items X lT oT (.of_pure e2)
    · rw [pick_length (by rw [l1, List.length_append, l2]; exact ho), hl]
end
end DL
namespace DL
open PySem L2 PyProof.Rows
end DL
namespace DL
open PySem L2 PyProof.Rows
theorem range_cons (lo : Int) (n : Nat) : rangeD lo (n + 1) = .int lo :: rangeD (lo + 1) n := by
  unfold rangeD
  rw [List.range_succ_eq_map, List.map_cons, List.map_map]
  simp only [List.cons.injEq, List.map_inj_left, Function.comp]
  refine ⟨by simp, fun a _ => ?_⟩
  congr 1
  omega
end DL
namespace DL
open PySem L2 PyProof.Rows PpSet
def GoodT (w : World) (e : Int × Value) : Prop := ∃ x tk, e.2 = Value.str x tk ∧ e.1 = hashStr w x
def tOf (e : Int × Value) : Str := match e.2 with
  | .str x _ => x
  | _ => ⟨#[]⟩
def SetT (w : World) (h : Heap) (a : Addr) (S : Str → Bool) (n : Nat) : Prop :=
  ∃ o es ep t, h.get? a = some o ∧ o.ExactSet ∧ o.data = .set es ep t ∧ (∀ e ∈ es.toList, GoodT w e) ∧ (es.toList.map tOf).Nodup ∧ (∀ k, S k = true ↔ k ∈ es.toList.map tOf) ∧
    es.size < scanBound ∧ t.fits es.size = true ∧ es.size = n ∧ Ris t.place.toList ∧ (w.params.followText "set-order" = true ∨ t.led = true)
section
variable {P : Program} {w : World} {h h' : Heap} {a : Addr} {S : Str → Bool} {n : Nat}
theorem SetT.at (R : SetT w h a S n) (k : ∀ o, h.get? a = some o → h'.get? a = some o) : SetT w h' a S n := by
  obtain ⟨o, es, ep, t, ho, r⟩ := R
  exact ⟨o, es, ep, t, k o ho, r⟩
end
end DL
namespace DL
open PySem L2 PyProof.Rows PpSet
end DL
namespace DL
open PySem L2 PyProof.Rows PpSet
end DL
namespace DL
open PySem L2 PyProof.Rows
end DL
namespace DL
open PySem L2 PyProof.Rows
end DL
namespace DL
open PySem L2 PyProof.Rows
theorem vals_pt : ∀ {xs : List V} {us : List Value}, xs.length = us.length → (∀ (i : Nat) x u, xs[i]? = some x → us[i]? = some u → RelV x u) → Vals xs us
  | [], [], _, _ => .nil
  | [], _ :: _, h, _ => by simp at h
  | _ :: _, [], h, _ => by simp at h
  | x :: xs, u :: us, h, q => .cons (q 0 x u rfl rfl) (vals_pt (by simpa using h) fun i a b ha hb => q (i + 1) a b (by simpa using ha) (by simpa using hb))
end DL
namespace DL
open PySem L2 PyProof.Rows
end DL
namespace DL
open PySem L2 PyProof.Rows
end DL
namespace DL
open PySem L2 PyProof.Rows
section
variable {X : Cx}
def rNeT0 (K : Fg) : R2 := fun x y H Q => ∃ a b xs, x = .ref a ∧ y = .ref b ∧ SqT K H a xs ∧ SqT K H b [] ∧ Q (.bl (!xs.isEmpty)) H
theorem op_neT0 (hu : X.A.units + 64 < cLine) : OpR X (compareOp .NotEq) (rNeT0 X.K) := by
  intro pins s σ H x y v u Q I rx ry h
  obtain ⟨a, b, xs, rfl, rfl, h1, h2, q⟩ := h
  obtain rfl : v = Value.ref a := rx
  obtain rfl : u = Value.ref b := ry
  obtain ⟨its, rv, p, _⟩ := I.tuple h1
  obtain ⟨its2, rv2, p2, _⟩ := I.tuple h2
  cases rv2
  have z := SeqAt.RcNeAt.tuples (A := X.A) (e := fun _ => true) (show s.heap.IsTuple a its.toArray from p) (show s.heap.IsTuple b ([] : List Value).toArray from p2) (by omega) (fun j j1 j2 => by simp at j2)
  refine z X.prog X.w X.xe _ ⟨.bl (!xs.isEmpty), H, I, ?_, q⟩
  have hl := rv.length
  have e : ((List.range (min its.toArray.size ([] : List Value).toArray.size)).all (fun _ => true) && its.toArray.size == ([] : List Value).toArray.size) = xs.isEmpty := by
    cases xs with
    | nil => cases rv; rfl
    | cons x xs => cases rv; simp
  rw [e]; rfl
def fNeT0 : F2 := fun a b => match a, b with
  | .tuple ds, .tuple [] => some (.val (.bool (!ds.isEmpty)))
  | _, _ => none
theorem opd_neT0 (hu : X.A.units + 64 < cLine) : OpD X (compareOp .NotEq) fNeT0 := by
  refine ⟨_, op_neT0 hu, fun e F r s H v1 v2 d1 d2 z Q k l1 l2 ef w => ?_⟩
  unfold fNeT0 at ef
  split at ef
  · rename_i ds
    cases ef
    obtain ⟨a, xs, rfl, h1, h2, _⟩ := l1.tup k.sub
    obtain ⟨b, ys, rfl, h3, h4, _⟩ := l2.tup k.sub
    cases h4
    refine ⟨a, b, xs, rfl, rfl, h1, h3, ?_⟩
    rw [h2.isEmpty]
    exact w _ F H k (Sub.refl F) (.val (.bl _))
  · cases ef
def rNeL0 (K : Fg) : R2 := fun x y H Q => ∃ a b xs, x = .ref a ∧ y = .ref b ∧ SqL K H a xs ∧ SqL K H b [] ∧ Q (.bl (!xs.isEmpty)) H
theorem op_neL0 (hu : X.A.units + 64 < cLine) : OpR X (compareOp .NotEq) (rNeL0 X.K) := by
  intro pins s σ H x y v u Q I rx ry h
  obtain ⟨a, b, xs, rfl, rfl, h1, h2, q⟩ := h
  obtain rfl : v = Value.ref a := rx
  obtain rfl : u = Value.ref b := ry
  obtain ⟨its, rv, p, _⟩ := I.list h1
  obtain ⟨its2, rv2, p2, _⟩ := I.list h2
  cases rv2
  have hl := rv.length
  cases xs with
  | nil =>
    cases rv
    have z := SeqAt.RcNeAt.lists (A := X.A) (e := fun _ => true) p.isList p2.isList rfl (by omega) (fun j j1 j2 => by simp at j2)
    exact z X.prog X.w X.xe _ ⟨.bl false, H, I, rfl, q⟩
  | cons x xs =>
    have z := SeqAt.RcNeAt.lists_lengths (A := X.A) p.isList p2.isList (by rw [List.size_toArray, ← hl]; rfl) (by omega)
    exact z X.prog X.w X.xe _ ⟨.bl true, H, I, rfl, q⟩
def fNeL0 : F2 := fun a b => match a, b with
  | .list ds, .list [] => some (.val (.bool (!ds.isEmpty)))
  | _, _ => none
theorem opd_neL0 (hu : X.A.units + 64 < cLine) : OpD X (compareOp .NotEq) fNeL0 := by
  refine ⟨_, op_neL0 hu, fun e F r s H v1 v2 d1 d2 z Q k l1 l2 ef w => ?_⟩
  unfold fNeL0 at ef
  split at ef
  · rename_i ds
    cases ef
    obtain ⟨a, xs, rfl, h1, h2⟩ := l1.lst k.sub
    obtain ⟨b, ys, rfl, h3, h4⟩ := l2.lst k.sub
    cases h4
    refine ⟨a, b, xs, rfl, rfl, .inl h1, .inl h3, ?_⟩
    rw [h2.isEmpty]
    exact w _ F H k (Sub.refl F) (.val (.bl _))
  · cases ef
def fNeU : F2 := orF (orF fNeT0 fNeL0) fNe
theorem opd_neU (hu : X.A.units + 64 < cLine) : OpD X (compareOp .NotEq) fNeU := (((opd_neT0 hu).or (opd_neL0 hu)).or (opd_ne hu))
def kNeU : D → D → (R → Prop) → Prop
  | .tuple ds, .tuple [], K => K (.val (.bool (!ds.isEmpty)))
  | .list ds, .list [], K => K (.val (.bool (!ds.isEmpty)))
  | a, b, K => kNe a b K
def oNeU : OpK := ⟨fNeU, kNeU, fun d1 d2 K h => by
  have key : (∃ ds, d1 = .tuple ds ∧ d2 = .tuple []) ∨ (∃ ds, d1 = .list ds ∧ d2 = .list []) ∨ (orF fNeT0 fNeL0 d1 d2 = none ∧ kNeU d1 d2 K = kNe d1 d2 K) := by
    cases d1 <;> cases d2 <;> first
      | exact .inr (.inr ⟨rfl, rfl⟩)
      | (rename_i a b
         cases b with
         | nil => first | exact .inl ⟨_, rfl, rfl⟩ | exact .inr (.inl ⟨_, rfl, rfl⟩)
         | cons x y => exact .inr (.inr ⟨rfl, rfl⟩))
  rcases key with ⟨ds, rfl, rfl⟩ | ⟨ds, rfl, rfl⟩ | ⟨e1, e2⟩
  · exact ⟨_, rfl, h⟩
  · exact ⟨_, rfl, h⟩
  · rw [e2] at h
    obtain ⟨z, e, hz⟩ := oNe.ok _ _ _ h
    refine ⟨z, ?_, hz⟩
    show (match orF fNeT0 fNeL0 d1 d2 with | some z => some z | none => fNe d1 d2) = some z
    rw [e1]
    exact e⟩
end
end DL
namespace DL
open PySem L2 PyProof.Rows
section
variable {X : Cx}
theorem call_listT (hc : X.calm = true) : CallR X (.type "list") (fun xs H Q => ∃ x : Str, xs = [.str x] ∧ x.length ≤ sizeLine ∧ ∀ l, H l = none → Q (.ref l) (upd H l (.lst (x.cps.toList.map fun c => V.str ⟨#[c]⟩)))) := by
  intro pins s σ H xs us Q I r h
  obtain ⟨x, rfl, hz, q⟩ := h
  obtain ⟨u, rfl, t, rfl⟩ := vals1 r
  refine call_list_str (I.ok.hd hc) x t (fun h' tk acc c k hget hacc => ?_) hz
  have hv : Vals (x.cps.toList.map fun c => V.str ⟨#[c]⟩) acc.toList := by
    refine vals_pt (by rw [List.length_map, Array.length_toList, Array.length_toList, hacc.1]) fun i y u hy hu => ?_
    obtain ⟨c, tt, e1, rfl⟩ := hacc.2 i u (by rw [← Array.getElem?_toList]; exact hu)
    rw [List.getElem?_map, Array.getElem?_toList, e1] at hy
    cases hy
    exact ⟨tt, rfl⟩
  have hl : (x.cps.toList.map fun c => V.str ⟨#[c]⟩).length ≤ sizeLine := by rw [List.length_map, Array.length_toList]; exact hz
  exact ⟨.ref _, _, I.laid (t' := tk) (o := .lst (x.cps.toList.map fun c => V.str ⟨#[c]⟩)) k (Nat.le_refl _) ⟨hl, acc.toList, c, hv, by simpa using hget⟩, rfl, q _ (I.hok.fresh (Nat.le_refl _))⟩
def fListU : FA
  | [.list ds] => some (.own (.L ds))
  | [.tuple ds] => some (.own (.L ds))
  | [.str x] => if x.length ≤ sizeLine then some (.own (.L (signsD x))) else none
  | _ => none
theorem rpA_signs {K : Fg} {F : Hp} : ∀ cs : List Nat, RpA K F (cs.map fun c => V.str ⟨#[c]⟩) (cs.map fun c => PyData.str ⟨#[c]⟩)
  | [] => .nil
  | c :: cs => .cons (.str _) (rpA_signs cs)
theorem calld_listU (hc : X.calm = true) : CallD X (.type "list") fListU := by
  refine ⟨_, CallR.or call_list_of (call_listT hc), fun e F r s H vs ds z Q k l ef w => ?_⟩
  unfold fListU at ef
  split at ef
  · cases ef
    obtain ⟨v, rfl, lk⟩ := l.one
    obtain ⟨p, xs, rfl, g2, g3⟩ := lk.lst k.sub
    exact .inl ⟨p, xs, rfl, .inl (.inl g2), fun q nq => w _ F _ (k.alloc nq) (Sub.refl F) (.newL k nq g3)⟩
  · cases ef
    obtain ⟨v, rfl, lk⟩ := l.one
    obtain ⟨p, xs, rfl, g2, g3, _⟩ := lk.tup k.sub
    exact .inl ⟨p, xs, rfl, .inr g2, fun q nq => w _ F _ (k.alloc nq) (Sub.refl F) (.newL k nq g3)⟩
  · rename_i x
    split at ef
    · rename_i hz
      cases ef
      obtain ⟨v, rfl, lk⟩ := l.one
      have ev := lk.flat (show flatD (.str x) = true from rfl)
      subst ev
      exact .inr ⟨x, rfl, hz, fun q nq => w _ F _ (k.alloc nq) (Sub.refl F) (.newL k nq (rpA_signs _))⟩
    · cases ef
  · cases ef
def kListU : List D → (R → Prop) → Prop
  | [.list ds], K => K (.own (.L ds))
  | [.tuple ds], K => K (.own (.L ds))
  | [.str x], K => Rq (x.length ≤ sizeLine) (K (.own (.L (signsD x))))
  | _, _ => False
def cListU : CaK := ⟨fListU, kListU, fun ds K h => by
  unfold kListU at h
  split at h
  · exact ⟨_, rfl, h⟩
  · exact ⟨_, rfl, h⟩
  · exact ⟨_, rq_if h, Rq.a h⟩
  · exact h.elim⟩
end
end DL
namespace DL
open PySem L2 PyProof.Rows
section
variable {X : Cx} {x : Str} {a b : Expr} {ma mb : ME} {pos pos' : Pos} {vs : List Nat} {op : CmpOp} {o : OpK}
theorem dv (i : Nat) (hN : X.N[i]? = some x := by rfl) (hv : Vis X.env.scope x := by first | exact .inl rfl | exact .inr (.inl rfl) | exact .inr (.inr rfl)) (hd : (x == ("__debug__" : Str)) = false := by decide) (hcd : (x == ("__classdict__" : Str)) = false := by decide) : DE X (.Name x pos) (mVar i) := de_var hN hv hd hcd
theorem dst (i : Nat) (hN : X.N.Nodup) (ha : DE X a ma) (hi : X.N[i]? = some x := by rfl) (hx : Loc X.env.scope x := by first | exact .inl rfl | exact .inr rfl) (hs : swapsWith a (some (.Name x pos')) pos.line X.env = pure false := by rfl) (hf : X.fn x = true ∨ X.env.scope.names.lookup x = some .local := by first | exact .inl rfl | exact .inr rfl | assumption) :
    DS X (.Assign [.Name x pos'] a pos) (sSet i ma) := ds_set hN hi hx ha hs hf
theorem dgn (i : Nat) (hN : X.N.Nodup) (hi : X.N[i]? = some x := by rfl) (hx : Loc X.env.scope x := by first | exact .inl rfl | exact .inr rfl) (hv : i ∈ vs := by simp) (hf : X.fn x = true ∨ X.env.scope.names.lookup x = some .local := by first | exact .inl rfl | exact .inr rfl | assumption) : DG X (.Name x pos) vs (gNm i) := dg_name hN hi hx hv hf
theorem dtc (ho : OpD X (compareOp op) o.f) (ha : DE X a ma) (hb : DE X b mb) (hm : behindInMarks op b = false := by rfl) : DT X (.Compare a [op] [b] pos) (mTest (mOp o ma mb)) := dt_cmp ho ha hb hm
theorem dec (ho : OpD X (compareOp op) o.f) (ha : DE X a ma) (hb : DE X b mb) (hm : behindInMarks op b = false := by rfl) : DE X (.Compare a [op] [b] pos) (mOp o ma mb) := de_cmp ho ha hb hm
end
end DL
namespace DL
open PySem L2 PyProof.Rows
section
variable {K : Fg} {e : En} {F : Hp} {r : Rho} {s : L2.St} {H : Hp}
def ghAt (r : Rho) (g : Nat) : Option Gh := match r[g]? with
  | some (some (.gh G)) => some G
  | _ => none
theorem ghAt_of {g : Nat} {G : Gh} (h : ghAt r g = some G) : r[g]? = some (some (.gh G)) := by
  unfold ghAt at h
  split at h
  · rename_i q; cases h; exact q
  · cases h
end
end DL
namespace DL
open PySem L2 PyProof.Rows
def adrOf : R → Option (Nat × Addr)
  | .adr n a => some (n, a)
  | _ => none
theorem adrOf_of {x : R} {n : Nat} {a : Addr} (h : adrOf x = some (n, a)) : x = .adr n a := by
  cases x <;> first | (cases h; rfl) | cases h
def x1R : X1 → R
  | .val d => .val d
  | .adr n a => .adr n a
def onI (nd : Nd) (k : Str → Addr → List (Str × X1) → Prop) : Prop := match nd with
  | .ins C dx fs => k C dx fs
  | _ => False
theorem onI.ex {nd : Nd} {k : Str → Addr → List (Str × X1) → Prop} (h : onI nd k) : ∃ C dx fs, nd = .ins C dx fs ∧ k C dx fs := by
  cases nd <;> first | exact h.elim | exact ⟨_, _, _, rfl, h⟩
/-- x is a node of the frame -/
def onN (r : Rho) (g : Nat) (x : R) (k : Nat → Addr → Gh → Nd → Prop) : Prop := onP (adrOf x) fun n a => onO (ghAt r g) fun G => onP (G[n]?) fun a' nd => a' = a ∧ k n a G nd
theorem onN.ex {r : Rho} {g : Nat} {x : R} {k : Nat → Addr → Gh → Nd → Prop} (h : onN r g x k) : ∃ n a G nd, x = .adr n a ∧ r[g]? = some (some (.gh G)) ∧ G[n]? = some (a, nd) ∧ k n a G nd := by
  obtain ⟨n, a, e1, h1⟩ := onP.ex h
  obtain ⟨G, e2, h2⟩ := onO.ex h1
  obtain ⟨a', nd, e3, e4, h3⟩ := onP.ex h2
  subst e4
  exact ⟨n, a', G, nd, adrOf_of e1, ghAt_of e2, e3, h3⟩
section
variable {K : Fg} {e : En} {F : Hp} {r : Rho} {s : L2.St} {H : Hp}
theorem XOk.rr {v : V} {x : X1} (h : XOk K F v x) : RR K e F r s H (x1R x) v := by
  cases h with
  | val a => exact .val a
  | adr => exact .adr
theorem XsOk.get : ∀ {vs : List V} {xs : List X1} {j : Nat} {x : X1}, XsOk K F vs xs → xs[j]? = some x → ∃ v, vs[j]? = some v ∧ XOk K F v x
  | _, _, _, _, .nil, e => by simp at e
  | _, _, 0, _, .cons h _, e => by simp at e; subst e; exact ⟨_, rfl, h⟩
  | _, _, j + 1, x, .cons _ r, e => by
    obtain ⟨v, e1, h⟩ := XsOk.get (j := j) (x := x) r (by simpa using e)
    exact ⟨v, by simpa using e1, h⟩
theorem XsOk.length : ∀ {vs : List V} {xs : List X1}, XsOk K F vs xs → vs.length = xs.length
  | _, _, .nil => rfl
  | _, _, .cons _ r => by rw [List.length_cons, List.length_cons, XsOk.length r]
theorem XsOk.append : ∀ {vs ws : List V} {xs ys : List X1}, XsOk K F vs xs → XsOk K F ws ys → XsOk K F (vs ++ ws) (xs ++ ys)
  | _, _, _, _, .nil, s => s
  | _, _, _, _, .cons h r, s => .cons h (XsOk.append r s)
theorem XsOk.set {v : V} {x : X1} (h : XOk K F v x) : ∀ {vs : List V} {xs : List X1} (n : Nat), XsOk K F vs xs → XsOk K F (vs.set n v) (xs.set n x)
  | _, _, _, .nil => .nil
  | _, _, 0, .cons _ r => .cons h r
  | _, _, n + 1, .cons q r => .cons q (XsOk.set h n r)
end
end DL
namespace DL
open PySem L2 PyProof.Rows
end DL
namespace DL
open PySem L2 PyProof.Rows
end DL
namespace DL
open PySem L2 PyProof.Rows
end DL
namespace DL
open PySem L2 PyProof.Rows
def onL (nd : Nd) (k : List X1 → Prop) : Prop := match nd with
  | .lst ws => k ws
  | _ => False
theorem onL.ex {nd : Nd} {k : List X1 → Prop} (h : onL nd k) : ∃ ws, nd = .lst ws ∧ k ws := by
  cases nd <;> first | exact h.elim | exact ⟨_, rfl, h⟩
theorem XsOk.at {K : Fg} {F : Hp} {vs : List V} {ds : List X1} {i : Int} {d : X1} (h : XsOk K F vs ds) (q : atI ds i = some d) : ∃ v, atI vs i = some v ∧ XOk K F v d := by
  unfold atI at q ⊢
  rw [h.length]
  cases z : ixN ds.length i with
  | none => rw [z] at q; cases q
  | some j =>
    rw [z] at q
    obtain ⟨v, e1, e2⟩ := h.get (show ds[j]? = some d from q)
    exact ⟨v, e1, e2⟩
theorem XsOk.take {K : Fg} {F : Hp} : ∀ {vs : List V} {ds : List X1} (n : Nat), XsOk K F vs ds → XsOk K F (vs.take n) (ds.take n)
  | _, _, 0, _ => .nil
  | _, _, _ + 1, .nil => .nil
  | _, _, n + 1, .cons h r => .cons h (XsOk.take n r)
end DL
namespace DL
open PySem L2 PyProof.Rows
end DL
namespace DL
open PySem L2 PyProof.Rows
/-- the module's name x is the def at its place -/
def GaAt (K : Fg) (mg : Str → Option Value) (x : Str) : Prop := mg x = some (.ref (He.ga K x))
end DL
namespace DL
open PySem L2 PyProof.Rows
end DL
namespace DL
open PySem L2 PyProof.Rows
end DL
namespace DL
open PySem L2 PyProof.Rows
/-- the k-th statement of a class -/
def clsAt : Stmt → Nat → Stmt
  | .ClassDef _ _ _ body _ _ _ _ _ _ _, k => body.getD k (.Pass ⟨0, 0, 0, 0⟩)
  | _, _ => .Pass ⟨0, 0, 0, 0⟩
/-- the class x of the module has the method m, which keeps c -/
structure MethP (P : Program) (w : World) (K : Fg) (mg : Str → Option Value) (base : Heap) (k : Nat) (C m : Str) (n : Nat) (c : Ct) : Prop where
  ex : ∃ f fd ps, Meth K (He.ga K C) m f ∧ FnD P w K mg base k f fd ps c ∧ Binds K fd ps [] ∧ ps.length = n
theorem MethP.of {P : Program} {w : World} {K : Fg} {mg : Str → Option Value} {base : Heap} {k : Nat} {C m : Str} {c : Ct} {f : Addr} {fd : FuncData} {ps : List Str} (hm : Meth K (He.ga K C) m f) (F : FnD P w K mg base k f fd ps c) (hb : Binds K fd ps []) : MethP P w K mg base k C m ps.length c := ⟨⟨f, fd, ps, hm, F, hb, rfl⟩⟩
/-- the class x of the module is made by what keeps c -/
structure MakeP (P : Program) (w : World) (K : Fg) (mg : Str → Option Value) (base : Heap) (k : Nat) (x : Str) (n : Nat) (c : Ct) : Prop where
  ex : ∃ j f fd ps, j + 1 ≤ k ∧ L2.Mk K (He.ga K x) f ∧ FnD P w K mg base j f fd ps c ∧ Binds K fd ps [] ∧ ps.length = n ∧ mg x = some (.ref (He.ga K x))
theorem MakeP.of {P : Program} {w : World} {K : Fg} {mg : Str → Option Value} {base : Heap} {j k : Nat} {x : Str} {c : Ct} {f : Addr} {fd : FuncData} {ps : List Str} (hj : j + 1 ≤ k) (hg : mg x = some (.ref (He.ga K x))) (hm : L2.Mk K (He.ga K x) f) (F : FnD P w K mg base j f fd ps c) (hb : Binds K fd ps []) : MakeP P w K mg base k x ps.length c := ⟨⟨j, f, fd, ps, hj, hm, F, hb, rfl, hg⟩⟩
end DL
namespace DL
open PySem PySem.Spec L2 PyProof.Rows
end DL
namespace DL
open PySem L2 PyProof.Rows
end DL
namespace DL
open PySem L2 PyProof.Rows
end DL
namespace DL
open PySem L2 PyProof.Rows
end DL
namespace DL
open PySem PySem.Spec L2 PyProof.Rows PpSet
end DL
namespace DL
open PySem L2 PyProof.Rows PpSet
end DL
namespace DL
open PySem L2 PyProof.Rows
end DL
namespace DL
open PySem L2 PyProof.Rows
end DL
namespace PySem
namespace DLX
open PySem.W PySem.Calls PyProof.Rows PySem.HandSPX Builtin Builtin.ObjectAttr
/-- own classes, then the tail -/
def refsT (tl : List Value) : List Value → Bool
  | .ref _ :: r => refsT tl r
  | l => l == tl
structure TlOk (tl : List Value) : Prop where
  pass : ∀ self : Value, refuseLoop self "__setattr__" tl = pure ()
  ty : ∃ T r, tl = .type T :: r
theorem refsT_cases {tl : List Value} : ∀ l : List Value, refsT tl l = true → (∃ c r, l = .ref c :: r ∧ refsT tl r = true) ∨ l = tl
  | [], e => .inr (beq_iff_eq.mp e)
  | v :: r, e => by
    cases v with
    | ref c => exact .inl ⟨c, r, rfl, e⟩
    | _ => exact .inr (beq_iff_eq.mp e)
theorem refsT_pass {tl : List Value} (T : TlOk tl) (self : Value) : ∀ l : List Value, refsT tl l = true → refuseLoop self "__setattr__" l = pure ()
  | [], e => by
    obtain ⟨_, _, q⟩ := T.ty
    rcases refsT_cases [] e with ⟨c, r, z, _⟩ | z
    · cases z
    · rw [q] at z; cases z
  | a :: r, e => by
    rcases refsT_cases (a :: r) e with ⟨c, r', z, h⟩ | z
    · cases z
      rw [refuseLoop_ref]
      exact refsT_pass T self r h
    · rw [z]; exact T.pass self
theorem refsT_has {tl : List Value} (T : TlOk tl) (X : String) : ∀ l : List Value, refsT tl l = true → l.contains (.type X) = tl.contains (.type X)
  | [], e => by
    obtain ⟨_, _, q⟩ := T.ty
    rcases refsT_cases [] e with ⟨c, r, z, _⟩ | z
    · cases z
    · rw [q] at z; cases z
  | a :: r, e => by
    rcases refsT_cases (a :: r) e with ⟨c, r', z, h⟩ | z
    · cases z
      rw [List.contains_cons, refsT_has T X r h]; rfl
    · rw [z]
theorem refsT_ne {tl : List Value} (T : TlOk tl) {l : List Value} (e : refsT tl l = true) : l.isEmpty = false := by
  cases l with
  | nil =>
    obtain ⟨_, _, q⟩ := T.ty
    rcases refsT_cases [] e with ⟨c, r, z, _⟩ | z
    · cases z
    · rw [q] at z; cases z
  | cons => rfl
abbrev keTail : List Value := [.type "KeyError", .type "LookupError", .type "Exception", .type "BaseException", .type "object"]
theorem tl_KE : TlOk keTail := ⟨fun self => by kernel_rfl, _, _, rfl⟩
/-- what is told of a base's making and of its __init__ -/
structure BsX (tl : List Value) (newId : String) : Prop where
  fn : ∃ (B initId : String) (bmB : List Value), ExcBaseFacts B newId initId bmB ∧ tl.contains (.type B) = true
  na : tl.contains (.type "AttributeError") = false
  nn : tl.contains (.type "NameError") = false
theorem bs_KE : BsX keTail "LookupError.__new__" := ⟨⟨_, _, _, F.excBase_LookupError, by decide +kernel⟩, by decide +kernel, by decide +kernel⟩
section
variable {M : Model} {prog : Program} {w : World} {A : Around} {E : Value → Shared → Prop} {R : Result → Shared → Prop} {h : Heap} {g : Array GenState} {d : Drawn} {t : Nat} {os : OsState}
variable {nm q : Str} {C N : Addr} {bs bm tl : List Value} {hdct : Bool} {sn : List Str} {sub : List Value} {ab : Bool} {col : Option Bool} {dd : Option Addr} {k0 k1 k2 k3 k5 : Option Value} {newId : String}
theorem new_x (Z : BsX tl newId) (hT : ∀ X : String, bm.contains (.type X) = tl.contains (.type X)) {rest : List Value} (hC : h.get? C = some (excClassObj nm q C N bs bm hdct sn sub ab col dd k0 k1 k2 k3 k5 newId)) (hrest : rest.length ≤ sizeLine)
    (hq : R (.ok (.ret (.ref (h.objs.size + 1)))) ⟨(h.push (kdv_tup rest)).push (excO C h.objs.size), g, d, t, os⟩) : codeAny (model prog w) A (.builtin newId ⟨.ref C :: rest, []⟩) R ⟨h, g, d, t, os⟩ := by
  obtain ⟨B, initId, bmB, F, zb⟩ := Z.fn
  have he := F.ends
  have cB : (Value.ref C :: bm).contains (.type B) = true := by rw [List.contains_cons, hT, zb, Bool.or_true]
  have cA : (Value.ref C :: bm).contains (.type "AttributeError") = false := by rw [List.contains_cons, hT, Z.na] <;> rfl
  have cN : (Value.ref C :: bm).contains (.type "NameError") = false := by rw [List.contains_cons, hT, Z.nn] <;> rfl
  refine codeAny_builtinAt F.entry ?_; unfold Builtin.«BaseException.__new__»
  refine wpAt_bind ?_; show wpAt _ _ _ (stack >>= _) _ _ _
  refine wpAt_bind (wpAt_stack fun p below => wpAt_of_wpAny ?_); wp_walk
  refine wpAt_of_wpAny ?_; rw [F.owner]
  repeat (first | with_reducible refine wpAny_madeHere_exc F.canon hC ?_ | with_reducible refine wpAny_loadPart_at hC ?_ | (with_reducible refine wpAny_isSubtype_exc hC ?_; (first | rw [cB] | rw [cA] | rw [cN])) | wp_step)
  show R _ _; rw [Heap.size_push]; exact hq
theorem check_new_x (Z : BsX tl newId) (hT : ∀ X : String, bm.contains (.type X) = tl.contains (.type X)) {rest : List Value} {Q : Unit → Shared → Prop} (hC : h.get? C = some (excClassObj nm q C N bs bm hdct sn sub ab col dd k0 k1 k2 k3 k5 newId)) (hq : Q () ⟨h, g, d, t, os⟩) :
    wpAny M A (checkBuiltinCall newId ⟨.ref C :: rest, []⟩) Q E ⟨h, g, d, t, os⟩ := by
  obtain ⟨B, initId, bmB, F, zb⟩ := Z.fn
  have cB : (Value.ref C :: bm).contains (.type B) = true := by rw [List.contains_cons, hT, zb, Bool.or_true]
  have hs := F.noStar
  simp only [checkBuiltinCall, F.newKind, F.newSplit, F.newRow]
  repeat (first | refine wpAny_loadPart_at hC ?_ | (refine wpAny_isSubtype_exc hC ?_; (rw [cB])) | refine wpAny_staticBase_exc hC ?_ | refine wpAny_madeBy_exc hC ?_ | simp only [bne_self_eq_false, Bool.false_eq_true, if_false] | wp_step)
  exact hq
theorem type_call_x (Z : BsX tl newId) (hT : ∀ X : String, bm.contains (.type X) = tl.contains (.type X)) {rest : List Value} {fI : Addr} {Q : Fin → Shared → Prop} (hC : h.get? C = some (excClassObj nm q C N bs bm hdct sn sub ab col dd k0 k1 k2 k3 k5 newId))
    (hi : W.Looks (model prog w) h (typeLookup (.ref C) "__init__") (some (.ref fI))) (hb : ∀ self, W.Looks (model prog w) h (bindSpecial (.ref fI) self) (.ref fI, [self])) (hrest : rest.length ≤ sizeLine)
    (hq : codeAny (model prog w) A (.call (.ref fI) ⟨.ref (h.objs.size + 1) :: rest, []⟩) (fun r s' => match r with | .ok (.ret v) => v = .none ∧ Q (.done (.ret (.ref (h.objs.size + 1)))) s' | .ok _ => False | .error e => E e s') ⟨(h.push (kdv_tup rest)).push (excO C h.objs.size), g, d, t, os⟩) :
    wpAny (model prog w) A (Builtin.«type.__call__» ⟨.ref C :: rest, []⟩) Q E ⟨h, g, d, t, os⟩ := by
  obtain ⟨B, initId, bmB, F, zb⟩ := Z.fn
  repeat (first | with_reducible refine wpAny_loadPart_at hC ?_ | with_reducible refine wpAny_madeBy_exc hC ?_ | wp_step)
  refine codeAny_call_builtin_code (Code.quiet_builtin _ F.quiet) (check_new_x Z hT hC (new_x Z hT hC hrest ?_))
  show wpAny _ _ _ _ _ _
  have k : ∀ b o, h.get? b = some o → ((h.push (kdv_tup rest)).push (excO C h.objs.size)).get? b = some o := fun b o e => Heap.get?_push_of_some _ (Heap.get?_push_of_some _ e)
  have hC1 := k _ _ hC
  have hget : ((h.push (kdv_tup rest)).push (excO C h.objs.size)).get? (h.objs.size + 1) = some (excO C h.objs.size) := by heap_get
  have cC : (Value.ref C :: bm).contains (.ref C) = true := by simp
  have i1 := hi.keeps k
  have b1 := (hb (.ref (h.objs.size + 1))).keeps k
  unfold isInstance
  repeat (first | with_reducible refine wpAny_loadPart_at hget ?_ | (with_reducible refine wpAny_isSubtype_exc hC1 ?_; (rw [cC])) | wp_step)
  show wpAny _ _ (typeLookup (.ref C) _) _ _ _; refine i1.at ?_
  refine wpAny_holding (wpAny_bind (b1.at ?_)); refine wpAny_bind (wpAny_call (codeAny_mono hq fun r s' z => ?_))
  rcases r with e | (v | _ | _ | _) <;> (first | (exact z) | (exact z.elim) | skip)
  obtain ⟨e1, z⟩ := z
  subst e1
  first
    | (exact wpAny_pure (wpAny_pure z))
    | (wp_walk; exact z)
theorem call_x (Z : BsX tl newId) (hT : ∀ X : String, bm.contains (.type X) = tl.contains (.type X)) {rest : List Value} {fI : Addr} (hC : h.get? C = some (excClassObj nm q C N bs bm hdct sn sub ab col dd k0 k1 k2 k3 k5 newId))
    (hi : W.Looks (model prog w) h (typeLookup (.ref C) "__init__") (some (.ref fI))) (hb : ∀ self, W.Looks (model prog w) h (bindSpecial (.ref fI) self) (.ref fI, [self])) (hrest : rest.length ≤ sizeLine)
    (hq : codeAny (model prog w) (A.under (.builtin "type.__call__" ⟨.ref C :: rest, []⟩)) (.call (.ref fI) ⟨.ref (h.objs.size + 1) :: rest, []⟩) (InitBack (h.objs.size + 1) R) ⟨(h.push (kdv_tup rest)).push (excO C h.objs.size), g, d, t, os⟩) :
    codeAny (model prog w) A (.call (.ref C) ⟨rest, []⟩) R ⟨h, g, d, t, os⟩ := by
  have f1 := tc_lookup; have f2 := tc_bind (.ref C)
  have hTy : (⟨h, g, d, t, os⟩ : Shared).TypeIs (.ref C) "type" := ⟨_, hC, rfl⟩
  refine codeAny_of_tree ?_; show wpAny _ _ (callAny (.ref C) _) _ _ _
  repeat (any_goals (first | assumption | with_reducible refine wpAny_loadPart_at hC ?_ | wp_step))
  refine ⟨rfl, codeAny_call_builtin_at (Code.quiet_builtin _ (by decide +kernel)) entry_typeCall (wpAny_check_type_call_sub hC (type_call_x Z hT hC hi hb hrest (codeAny_mono hq fun r s' z => ?_)))⟩
  rcases r with e | (v | _ | _ | _) <;> exact z
structure InX (tl : List Value) (B initId : String) : Prop where
  init : Slot B "__init__" initId
  entry : entryFor table initId = some Builtin.«BaseException.__init__»
  kind : builtinKind initId = some .slot
  split : splitId initId = some (B, "__init__")
  row : Manifest.signature? initId = some ⟨.positional, "*", B, .self, [⟨"args", .varPos, false⟩]⟩
  star : (B != "*") = true
  has : tl.contains (.type B) = true
theorem in_KE : InX keTail "KeyError" "KeyError.__init__" := ⟨excClass_KeyError.init, excClass_KeyError.initEntry, excClass_KeyError.initKind, excClass_KeyError.initSplit, by kernel_rfl, by decide +kernel, by decide +kernel⟩
theorem check_init_x {B initId : String} (Z : InX tl B initId) (hT : ∀ X : String, bm.contains (.type X) = tl.contains (.type X)) {e : Addr} {oe : Obj} {rest : List Value} {Q : Unit → Shared → Prop}
    (hC : h.get? C = some (excClassObj nm q C N bs bm hdct sn sub ab col dd k0 k1 k2 k3 k5 newId)) (he : h.get? e = some oe) (hcls : oe.cls = .ref C) (hq : Q () ⟨h, g, d, t, os⟩) : wpAny M A (checkBuiltinCall initId ⟨.ref e :: rest, []⟩) Q E ⟨h, g, d, t, os⟩ := by
  have cB : (Value.ref C :: bm).contains (.type B) = true := by rw [List.contains_cons, hT, Z.has, Bool.or_true]
  have hs := Z.star
  simp only [checkBuiltinCall, Z.kind, Z.split, Z.row]
  repeat (first | (with_reducible refine wpAny_loadPart_at he ?_; (rw [hcls])) | with_reducible refine wpAny_loadPart_at hC ?_ | (with_reducible refine wpAny_isSubtype_exc hC ?_; (rw [cB])) | wp_step)
  refine wpAny_onRaise ?_
  have z : ∀ (a b : String) (n : Nat), Bind.check ⟨.positional, "*", B, .self, [⟨"args", .varPos, false⟩]⟩ a b n (List.map (fun x => x.fst) ({ pos := Value.ref e :: rest } : Args).kw) = pure () := fun a b n => check_star_args _ _ _ _ _ _
  rw [z]; exact wpAny_pure hq
theorem init_x {B initId : String} (Z : InX tl B initId) (hT : ∀ X : String, bm.contains (.type X) = tl.contains (.type X)) {e t0 : Addr} {rest : List Value} (hC : h.get? C = some (excClassObj nm q C N bs bm hdct sn sub ab col dd k0 k1 k2 k3 k5 newId))
    (he : h.get? e = some (excO C t0)) (hrest : rest.length ≤ sizeLine) (hq : ∀ h' t1, (∀ b o, b ≠ e → h.get? b = some o → h'.get? b = some o) → h'.get? e = some (excO C t1) → R (.ok (.ret .none)) ⟨h', g, d, t, os⟩) :
    codeAny (model prog w) A (.call (.builtin initId) ⟨.ref e :: rest, []⟩) R ⟨h, g, d, t, os⟩ := by
  refine codeAny_call_builtin Z.init.plain Z.entry (check_init_x Z hT hC he rfl ?_)
  wp_walk; refine hq _ h.objs.size (fun b o hb ho => ?_) ?_
  · rw [Heap.get?_update_other _ _ (Ne.symm hb)] <;> exact Heap.get?_push_of_some _ ho
  · rw [Heap.get?_update_self _ (Heap.get?_push_of_some _ he) rfl] <;> rfl
/-- self.f = v, the first one -/
theorem osa_x {K : W.Frag} {name : Str} {tk : Tok} {v : Value} {x : Addr} {fv : Array Value} {cd : ClassData} (T : TlOk tl) (X : K.In h) (hx : h.get? x = some { cls := .ref C, data := .fields fv }) (hcd : W.clsIn K C = some cd) (hm : refsT tl cd.mro = true) (ho : tl.contains (.type "object") = true)
    (hh : cd.hasDict = true) (ha : W.findIn K (.ref C) name = some none)
    (hq : ∀ h' tk' dx, (∀ b o, b ≠ x → h.get? b = some o → h'.get? b = some o) → h.objs.size ≤ dx → dx ≠ x → h'.get? x = some { cls := .ref C, dict := some dx, data := .fields fv } → h'.Ns1 dx (fun y => if y = name then some v else none) → R (.ok (.ret .none)) ⟨h', g, d, tk', os⟩) :
    codeAny (model prog w) A (.call (.builtin "object.__setattr__") ⟨[.ref x, .str name tk, v], []⟩) R ⟨h, g, d, t, os⟩ := by
  have I : W.InstAt h x { cls := .ref C, data := .fields fv } C none := ⟨hx, rfl, rfl, trivial⟩
  have S := F.store_object; have ne := refsT_ne T hm
  have hob : cd.mro.contains (.type "object") = true := (refsT_has T "object" _ hm).trans ho
  have hxs : x ≠ h.objs.size := Nat.ne_of_lt (Heap.lt_size hx)
  have sb : W.Looks (model prog w) h (isInstance (.ref x) (.type "object")) true := I.type.andThen (W.looks_mroIn X (by unfold W.mroIn; rw [hcd, Option.bind_some, if_neg (by rw [ne]; decide), hob]))
  refine codeAny_call_builtin S.slot.plain S.entry (@W.check_slot (model prog w) _ _ ⟨h, g, d, t, os⟩ "object.__setattr__" "object" "__setattr__" (.ref x) [.str name tk, v] [] _ S.kind S.split sb (S.args (.ref x) (.str name tk) v) ?_)
  have hmr : W.Looks (model prog w) h (mroOf (.ref C)) cd.mro := (W.looks_clsIn X hcd).andThen .now
  have l3 : W.Looks (model prog w) h (storeTaker? none) none := .now
  have hcl : W.Looks (model prog w) h (classData C) cd := W.looks_clsIn X hcd
  rw [W.osa_eq, refuse_eq] <;> refine wpAny_bind (wpAny_bind (I.type.at (wpAny_bind (hmr.at ?_))))
  rw [refsT_pass T _ _ hm]
  refine wpAny_pure (wpAny_bind (I.type.at (wpAny_bind ((W.looks_findIn X ha).at (wpAny_bind (l3.at ?_))))))
  show wpAny _ _ (storeInOwnDict (.ref x) (.ref C) (.str name tk) name v false) _ _ _
  obtain ⟨n1, n2, n3, n4, n5, n6, n7, n8, n9, n10, n11⟩ := cd
  simp only at hh
  subst hh
  unfold storeInOwnDict ownDictForStores
  repeat (first | with_reducible refine store_in_new ?_ ?_ | with_reducible refine wpAny_loadPart_at hx ?_ | with_reducible refine hcl.at ?_ | wp_step)
  · exact ⟨_, #[], _, (Heap.get?_update_ne _ _ _ _ hxs.symm).trans (Heap.get?_push_at rfl rfl), rfl, fun e he => absurd he (by simp), fun _ => rfl⟩
  · intro h' tk' hn' hs
    have hx1 : (h.push { cls := .type "dict", data := .dict #[] }).get? x = some { cls := .ref C, data := .fields fv } := Heap.get?_push_of_some _ hx
    refine hq h' tk' h.objs.size (fun b o hb ho => (hs.2 b (Nat.ne_of_lt (Heap.lt_size ho))).trans ((Heap.get?_update_ne _ _ _ _ hb).trans (Heap.get?_push_of_some _ ho))) (Nat.le_refl _) hxs.symm ((hs.2 x hxs).trans (Heap.get?_update_self _ hx1 rfl)) hn'
end
end DLX
end PySem
namespace DL
open PySem L2 PyProof.Rows
/-- what the text says of the class at C -/
structure XcC (K : Fg) (C : Addr) (tl : List Value) (newId : String) : Prop where
  cls : ∃ nm q N bs bm sn sub ab col dd k0 k1 k2 k3 k5, K.lookup C = some (excClassObj nm q C N bs bm true sn sub ab col dd k0 k1 k2 k3 k5 newId) ∧ DLX.refsT tl bm = true
  sa : PySem.W.findIn K (.ref C) "__setattr__" = some (some (.builtin "object.__setattr__"))
  exC : PySem.W.subIn K (.ref C) (.type "BaseException") = some true
  tyC : PySem.W.typeIn K (.ref C) = some (.type "type")
  kC : PySem.W.keepIn K (.ref C) = true
/-- a base, with its facts -/
structure XBase (tl : List Value) (newId B initId : String) : Prop where
  t : DLX.TlOk tl
  ob : tl.contains (.type "object") = true
  b : DLX.BsX tl newId
  i : DLX.InX tl B initId
  hd : PySem.W.handedIn (.builtin initId) = true
theorem xb_KE : XBase DLX.keTail "LookupError.__new__" "KeyError" "KeyError.__init__" := ⟨DLX.tl_KE, by decide +kernel, DLX.bs_KE, DLX.in_KE, by decide +kernel⟩
section
variable {X : Cx} {pins : List (Addr × Obj)} {σ : L2.St} {H : Hp} {s : Shared} {a C : Addr} {f : Str} {y : V} {u : Value} {A : Around} {E : Value → Shared → Prop} {tl : List Value} {newId B initId : String}
/-- self.f = y -/
theorem ost_x (Z : XBase tl newId B initId) (T : XcC X.K C tl newId) (I : Inv X pins σ H s) (e : H a = some (exo a C none)) (hno : PySem.W.findIn X.K (.ref C) f = some none) (ry : RelV y u) {Q : Unit → Shared → Prop}
    (h : ∀ dx s', H dx = none → dx ≠ a → Inv X pins σ (upd (upd H dx (exd dx [(f, y)])) a (exo a C (some dx))) s' → Q () s') : wpAny (model X.prog X.w) A (setAttr (.ref a) f u) Q E s := by
  obtain ⟨nm, q, N, bs, bm, sn, sub, ab, col, dd, k0, k1, k2, k3, k5, hC, hbm⟩ := T.cls
  have hcl : PySem.W.clsIn X.K C = some { name := nm, bases := bs, mro := .ref C :: bm, ns := N, qualname := q, hasDict := true, slotNames := sn, subclasses := sub, abstract := ab, collection := col, hasDel := false } := by unfold PySem.W.clsIn; rw [hC]
  obtain ⟨t1, ho⟩ := exo_at I.hok e; obtain ⟨hp, g, d, t, os⟩ := s
  refine PySem.W.set_plain I.kIn (ox := { cls := .ref C, dict := none, data := .fields #[.ref t1, .none, .none, .none, .bool false, .none] }) (od := none) ⟨ho, rfl, rfl, trivial⟩ T.sa (DLX.osa_x Z.t I.kIn ho hcl (show DLX.refsT tl (.ref C :: bm) = true from hbm) Z.ob rfl hno fun h' tk' dx k dn dne hx hn => ?_)
  have hnd : H dx = none := I.hok.fresh dn
  have nd : ∀ {b : Addr} {o : Obj}, hp.get? b = some o → b ≠ dx := fun {b o} q => Nat.ne_of_lt (Nat.lt_of_lt_of_le (Heap.lt_size q) dn)
  have na : ∀ {b : Addr}, H b = none → b ≠ a := fun {b} n z => by rw [z, e] at n; cases n
  have U : Un X.fs [] H (upd (upd H dx (exd dx [(f, y)])) a (exo a C (some dx))) hp h' := {
    keep := fun b o q n _ _ => k b o (na n) q
    slot := fun b o q n _ _ => ⟨o.slots, k b o (na n) q⟩
    free := fun b o q n _ => by (rw [upd_ne (na n), upd_ne (nd q)]; exact n)
    there := fun b o q _ => by
      by_cases hb : b = a
      · exact ⟨_, by (rw [hb]; exact hx)⟩
      · exact ⟨o, k b o hb q⟩
    tups := fun b xs q => by (rw [upd_ne (at_ne e q exo_tup), upd_ne (ne_of_none q hnd)]; exact q)
    frzs := fun b o v q => by (rw [upd_ne (at_ne e q exo_frz), upd_ne (ne_of_none q hnd)]; exact q)
    tbls := fun b ps q => ⟨#[], by (rw [upd_ne (at_ne e q exo_tbl), upd_ne (ne_of_none q hnd), q]; simp)⟩ }
  refine h dx _ hnd dne (I.un (t' := tk') U fun b o q => ?_)
  by_cases hb : b = a
  · subst hb
    rw [upd_same] at q; cases q
    exact exo_ok hx
  · rw [upd_ne hb] at q
    by_cases hd : b = dx
    · subst hd
      rw [upd_same] at q; cases q
      exact exd_ok hn (relO_put (fs := []) ry fun g => True.intro)
    · rw [upd_ne hd] at q
      refine (I.hok b o q).stay (fun c v hc z => k c v (fun w => ?_) z) (fun c hc => by (rw [upd_ne (at_ne e hc exo_own), upd_ne (ne_of_none hc hnd)]; exact hc)) (fun c xs hc => by (rw [upd_ne (at_ne e hc exo_tup), upd_ne (ne_of_none hc hnd)]; exact hc))
      rcases hc with hc | hc
      · exact hb (hc.symm.trans w)
      · exact at_ne e hc exo_own w
/-- B.__init__(self, ..): nothing of it is told -/
theorem oinit_x {us : List Value} {Q : Value → Shared → Prop} (Z : XBase tl newId B initId) (T : XcC X.K C tl newId) (I : Inv X pins σ H s) (e : H a = some (exo a C none)) (hl : us.length ≤ sizeLine) (h : ∀ s', Inv X pins σ H s' → Q .none s') :
    wpAny (model X.prog X.w) A (call (.builtin initId) (.ref a :: us)) Q E s := by
  obtain ⟨nm, q, N, bs, bm, sn, sub, ab, col, dd, k0, k1, k2, k3, k5, hC, hbm⟩ := T.cls
  obtain ⟨t1, ho⟩ := exo_at I.hok e; obtain ⟨hp, g, d, t, os⟩ := s
  refine wpAny_call (DLX.init_x Z.i (fun Y => DLX.refsT_has Z.t Y bm hbm) (I.kIn _ _ hC) ho hl fun h' t2 k hx => ?_)
  have J := I.write (t' := t) (x := a) (e := a) (o := exo a C none) (by (rw [e]; exact True.intro)) (.inl rfl) k ⟨_, hx⟩ (exo_ok hx)
  have eu : upd H a (exo a C none) = H := funext fun b => by
    by_cases hb : b = a
    · rw [hb, upd_same, e]
    · rw [upd_ne hb]
  rw [eu] at J; exact h _ J
end
/-- the base's name in the text: a builtin class, or an own one -/
def BaseAt (K : Fg) (mg : Str → Option Value) (x : Str) (initId : String) : Prop :=
  (mg x = none ∧ ∃ T : String, bootBuiltins x = some (.type T) ∧ x ≠ "__name__" ∧ typeOf (.type T) = pure (.type "type") ∧ Manifest.isStub T = false ∧ PySem.W.findCls K (.type T) (.type "type") "__init__" = some (.val (.builtin initId))) ∨
  ∃ R, mg x = some (.ref R) ∧ PySem.W.readsIn K R (.type "type") = true ∧ PySem.W.specialIn K (.ref R) "__getattribute__" = some (some (.builtin "type.__getattribute__")) ∧ PySem.W.findCls K (.ref R) (.type "type") "__init__" = some (.val (.builtin initId))
/-- B.__init__(self, ..) -/
def tXinit (K : Fg) (tl : List Value) (newId : String) (ta : TA) : TE := fun σ H Q => ta σ H fun vs H1 => ∃ (a C : Addr) (ws : List V), vs = .ref a :: ws ∧ ws.length ≤ 1000 ∧ XcC K C tl newId ∧ H1 a = some (exo a C none) ∧ Q .non H1
section
variable {X : Cx} {o e : Expr} {es : List Expr} {to te : TE} {ta : TA} {f x : Str} {p p' p1 p2 pos : Pos} {tl : List Value} {newId B initId : String}
theorem pe_xinit {pl : Sem Bool} (Z : XBase tl newId B initId) (hb : BaseAt X.K X.mg x initId) (hg : Gl X x) (ha : PA X (e :: es) ta) (hdb : (x == ("__debug__" : Str)) = false := by decide)
    (hc : eval (.Call (.Attribute (.Name x p1) "__init__" p2) (e :: es) [] pos) X.env = (do
      let ov ← eval (.Name x p1) X.env
      standAt p2.atName
      let (f, first) ← holding [ov] (getMethod ov "__init__" pl)
      callWith pos f first (backTo pos (starEach (e :: es) X.env)) (backToKw pos (keywordEach [] X.env))) := by rfl)
    (he : starEach (e :: es) X.env = (false, eval e X.env) :: starEach es X.env := by rfl) (hpl : (backTo pos (starEach es X.env)).any (·.1) = false := by rfl) :
    PE X (.Call (.Attribute (.Name x p1) "__init__" p2) (e :: es) [] pos) (tXinit X.K tl newId ta) := by
  refine ⟨fun pins s σ H Q I h => ?_⟩
  have go : ∀ {s0 : Shared}, Inv X pins σ H s0 → wpAny (model X.prog X.w) X.A (callWith pos (Value.builtin initId) [] (backTo pos (starEach (e :: es) X.env)) (backToKw pos (keywordEach [] X.env))) (EP X pins σ Q) X.xe s0 := by
    intro s0 I0
    refine PyProof.Rows.callWith_method1 (thn (ha.run pos pins _ σ H _ I0 h) fun us s1 ⟨vs, H1, I1, r1, a, C, ws, ev, hl, T, ea, q⟩ => ?_) he hpl
    subst ev
    cases r1 with
    | @cons _ u0 _ ur ra rw' =>
      have ra : u0 = Value.ref a := ra
      subst ra
      exact oinit_x Z T I1 ea (by rw [← Paired.length rw', sizeLine_eq]; omega) fun s' J => ⟨.non, H1, J, rfl, q⟩
  refine PySem.W.methodCall_KW ?_ hc
  rcases hb with ⟨hm, T, hv, hn, ht, hs, hf⟩ | ⟨R, hm, hr, hga, hf⟩
  · refine ld_blt I hg hm hv ?_ hn hdb
    obtain ⟨m, fr⟩ := I.fr
    exact PySem.W.method_type fr I.ok.mod.kin ht hs hf Z.hd (go (I.tok _))
  · refine ld_glob I hg hm ?_ hdb
    exact PySem.W.method_cls I.kIn hga (PySem.W.cls_value I.kIn hr hf Z.hd (go (I.tok _)))
/-- self.f = e, the first one -/
def tXst (K : Fg) (tl : List Value) (newId : String) (f : Str) (to te : TE) : TS := fun D σ H => te σ H fun y H1 => to σ H1 fun x H2 => ∃ a C : Addr, x = .ref a ∧ XcC K C tl newId ∧ PySem.W.findIn K (.ref C) f = some none ∧
  H2 a = some (exo a C none) ∧ ∀ dx, H2 dx = none → dx ≠ a → D.nx σ (upd (upd H2 dx (exd dx [(f, y)])) a (exo a C (some dx)))
theorem ps_xst (Z : XBase tl newId B initId) (ho : PE X o to) (he : PE X e te) (hs : swapsWith e (some (.Attribute o f p')) pos.line X.env = pure false := by rfl) : PS X (.Assign [.Attribute o f p'] e pos) (tXst X.K tl newId f to te) := by
  refine ⟨fun pins s σ H D I h => plainObj_wpAny_Assign_Attribute (thn (he.run pins s σ H _ I h) fun v s1 ⟨y, H1, I1, r1, q1⟩ => thn (ho.run pins s1 σ H1 _ I1 q1) fun u s2 ⟨x, H2, I2, r2, a, C, ex, T, hno, ea, q⟩ => ?_) hs⟩
  subst ex
  have r2 : u = Value.ref a := r2
  subst r2
  exact ost_x Z T I2 ea hno r1 fun dx s' n ne J => ⟨σ, _, J, q dx n ne⟩
end
end DL
namespace DL
open PySem L2 PyProof.Rows
def spXI (K : Fg) (tl : List Value) (newId : String) (f : Str) : Sp := fun vs H Q _ => ∃ a C y, vs = [.ref a, y] ∧ XcC K C tl newId ∧ PySem.W.findIn K (.ref C) f = some none ∧ H a = some (exo a C none) ∧ ∀ dx, H dx = none → dx ≠ a → Q .non (upd (upd H dx (exd dx [(f, y)])) a (exo a C (some dx)))
section
variable {P : Program} {w : World} {K : Fg} {mg : Str → Option Value} {base : Heap} {B f qual : Str} {params : Arguments} {body : List Stmt} {scope : Scope} {fI : Addr} {fd : FuncData} {tl : List Value} {newId Bn initId : String}
/-- what such a body does -/
def tXI (K : Fg) (tl : List Value) (newId : String) (f tx : Str) : TS := tSeq (tDrop (tXinit K tl newId (tCons (tVar 0) (tCons (tC (.str tx)) tNil)))) (tXst K tl newId f (tVar 0) (tVar 1))
theorem xinit_fn {tx : Str} (F : FunD K "__init__" qual params body scope [] [] fI fd) (S : FnScope ["self", f] ["self", f] scope)
    (hbody : ∀ (cdv : Value) (A : Around) (outer : List Env) (s : Shared) (H : Hp) (E : XK), PSs (cxOf CX0 P w K mg base ["self", f] qual scope fI cdv A outer s H E) body (tXI K tl newId f tx)) : FnOk P w K mg base CX0 1 fI fd ["self", f] (spXI K tl newId f) := by
  obtain ⟨oc, od, dV, kV, doc, pm, an, cdv, ct, osl, rfl, lk, hcd, _, _⟩ := F.ex
  refine fn_of lk hcd S (fun vs H Q E ⟨a, C, y, e, _⟩ => by rw [e]; rfl) fun A outer s H vs Q E hr hsp => ⟨_, hbody cdv A outer s H E, ?_⟩
  obtain ⟨a, C, y, rfl, T, hno, ha, hQ⟩ := hsp
  refine ⟨.ref a, rfl, a, C, [.str tx], rfl, by simp, T, ha, ?_⟩
  exact ⟨y, rfl, .ref a, rfl, a, C, rfl, T, hno, ha, fun dx n ne => hQ dx n ne⟩
end
/-- C(e) -/
def tMkX (C : Addr) (f : Str) (ta : TE) : L2.St → Hp → XK → Prop := fun σ H Q => ta σ H fun y H1 => ∀ d, H1 d = none → Q (.ref C) (some d) (upd H1 d (.xd [(f, y)]))
section
variable {X : Cx} {e : Expr} {te : TE} {f x : Str} {p pos : Pos} {tl : List Value} {newId Bn initId : String} {C fI : Addr} {fd : FuncData} {k : Nat}
theorem pmk_x (Z : XBase tl newId Bn initId) (T : XcC X.K C tl newId) (hno : PySem.W.findIn X.K (.ref C) f = some none) (iC : PySem.W.findIn X.K (.ref C) "__init__" = some (some (.ref fI))) (tI : PySem.W.typeIn X.K (.ref fI) = some (.type "function"))
    (F1 : FnOk X.prog X.w X.K X.mg X.base CX0 k fI fd ["self", f] (spXI X.K tl newId f)) (hr : Room (k + 1) X.A) (hb : Binds X.K fd ["self", f] []) (hg : Gl X x) (hm : X.mg x = some (.ref C)) (ha : PE X e te)
    (hdb : (x == ("__debug__" : Str)) = false := by decide) (he : starEach [e] X.env = (false, eval e X.env) :: starEach [] X.env := by rfl) (hpl : (backTo pos (starEach [] X.env)).any (·.1) = false := by rfl) :
    PMk X (.Call (.Name x p) [e] [] pos) (tMkX C f te) := by
  intro pins s σ H Q I h
  obtain ⟨nm, q, N, bs, bm, sn, sub, ab, col, dd, k0, k1, k2, k3, k5, hC, hbm⟩ := T.cls
  refine wpAny_Call_Name_kw (ld_glob I hg hm ?_ hdb)
  have ha2 : PA X [e] (fun σ H Q => te σ H fun y H1 => Q [y] H1) := pa_cons ha pa_nil he
  let G : List V → Hp → Prop := fun vs H1 => match vs with
    | [y] => ∀ d, H1 d = none → Q (.ref C) (some d) (upd H1 d (.xd [(f, y)]))
    | _ => False
  have h0 : te σ H fun y H1 => G [y] H1 := h
  refine PySem.W.callWith_K (h₀ := X.base) I.ok.mod.kin T.kC (thn (ha2.run pos pins s σ H G I h0) fun us s1 ⟨vs, H1, I1, r1, q0⟩ => ⟨I1.kIn, ?_⟩) he hpl
  · obtain ⟨y, ev, q1⟩ : ∃ y, vs = [y] ∧ ∀ d, H1 d = none → Q (.ref C) (some d) (upd H1 d (.xd [(f, y)])) := by
      match vs, q0 with
      | [y], q0 => exact ⟨y, rfl, q0⟩
    subst ev
    show wpAny _ _ (call (.ref C) us) _ _ _
    obtain ⟨hp, g, dr, tk, os⟩ := s1
    have hsz : hp.objs.size ≤ hp.objs.size + 1 := Nat.le_succ _
    have hn : H1 (hp.objs.size + 1) = none := I1.hok.fresh hsz
    have kk : ∀ b o, hp.get? b = some o → ((hp.push (PySem.W.kdv_tup us)).push (PySem.HandSPX.excO C hp.objs.size)).get? b = some o := fun b o e => Heap.get?_push_of_some _ (Heap.get?_push_of_some _ e)
    have hget : ((hp.push (PySem.W.kdv_tup us)).push (PySem.HandSPX.excO C hp.objs.size)).get? (hp.objs.size + 1) = some (PySem.HandSPX.excO C hp.objs.size) := by heap_get
    have I2 : L2.Inv X pins σ (upd H1 (hp.objs.size + 1) (exo (hp.objs.size + 1) C none)) ⟨(hp.push (PySem.W.kdv_tup us)).push (PySem.HandSPX.excO C hp.objs.size), g, dr, tk, os⟩ :=
      I1.laid (t' := tk) (a := hp.objs.size + 1) (o := exo (hp.objs.size + 1) C none) (h' := (hp.push (PySem.W.kdv_tup us)).push (PySem.HandSPX.excO C hp.objs.size)) kk hsz (exo_ok hget)
    have r2 : Vals (V.ref (hp.objs.size + 1) :: [y]) (Value.ref (hp.objs.size + 1) :: us) := .cons rfl r1
    have hl : (Value.ref (hp.objs.size + 1) :: us).length = 2 := r2.length.symm
    have hus : us.length ≤ sizeLine := by
      have e := r1.length
      rw [← e, sizeLine_eq] <;> simp
    have hsp : spXI X.K tl newId f (V.ref (hp.objs.size + 1) :: [y]) (upd H1 (hp.objs.size + 1) (exo (hp.objs.size + 1) C none))
        (fun v H2 => v = .non ∧ ∃ (d : Addr), H2 (hp.objs.size + 1) = some (exo (hp.objs.size + 1) C (some d)) ∧ H2 d = some (exd d [(f, y)]) ∧ H1 d = none ∧ upd (del H2 (hp.objs.size + 1)) d (.xd [(f, y)]) = upd H1 d (.xd [(f, y)])) (fun _ _ _ => False) := by
      refine ⟨_, C, y, rfl, T, hno, upd_same, fun dx n ne => ⟨rfl, dx, upd_same, ?_, ?_, ?_⟩⟩
      · rw [upd_ne ne, upd_same]
      · rw [upd_ne ne] at n; exact n
      · funext b
        by_cases hb : b = dx
        · subst hb; rw [upd_same, upd_same]
        · rw [upd_ne hb, upd_ne hb]
          by_cases hb2 : b = hp.objs.size + 1
          · subst hb2; rw [del_same, hn]
          · rw [del_ne hb2, upd_ne hb2, upd_ne hb, upd_ne hb2]
    refine wpAny_call (DLX.call_x Z.b (fun Y => DLX.refsT_has Z.t Y bm hbm) (I1.kIn _ _ hC) (PySem.W.looks_findIn I1.kIn iC) (fun self => PySem.W.bind_fn I1.kIn self tI) hus
      (codeAny_mono (F1.run _ X.stack _ _ ⟨Value.ref (hp.objs.size + 1) :: us, []⟩ (Value.ref (hp.objs.size + 1) :: us) _ _ (fun _ _ _ => False) (hr.make C us []) (I2.env0.make C us []) (by have z := hb _ (Value.ref (hp.objs.size + 1) :: us) I2.kIn (by rw [List.append_nil]; exact hl); rw [List.append_nil] at z; exact z) r2 hsp) fun r s' hq' => ?_))
    cases r with
    | error er => exact False.elim hq'
    | ok fl =>
      cases fl with
      | ret u =>
        obtain ⟨v, H2, os2, bare2, un2, hok2, rv, ev, d, ea, ed, hd1, eH⟩ := hq'
        subst ev
        obtain ⟨h2, g2, d2, t2, os'⟩ := s'
        exact ⟨rv, mk_end (raises_own T.exC T.tyC) I1 hsz kk un2 hok2 os2 bare2 ea ed hd1 (by rw [eH]; exact q1 d hd1)⟩
      | next => exact False.elim hq'
      | brk => exact False.elim hq'
      | cont => exact False.elim hq'
end
end DL
namespace DL
open PySem L2 PyProof.Rows
section
variable {X : Cx}
theorem PA_nox {es : List Expr} {t : TA} (h : PA X.nox es t) : PA X es t := ⟨fun pos pins s σ H Q I hw =>
  wpAny_mono (h.run pos pins s σ H Q (I.wish _) hw) (fun _ _ ⟨v, H', I', r, q⟩ => ⟨v, H', I'.unwish, r, q⟩) fun _ _ z => False.elim z⟩
theorem PS_nox {st : Stmt} {t : TS} (h : PS X.nox st t) : PS X st t := ⟨fun pins s σ H D I hw =>
  wpAny_mono (h.run pins s σ H D (I.wish _) hw) (fun _ _ q => q.unwish) fun _ _ z => False.elim z⟩
end
/-- an error: its class, its dict -/
inductive XdOk (K : Fg) (F : Hp) : Str → List (Str × D) → Value → Option Addr → Prop
  | non {C : Str} : XdOk K F C [] (.ref (He.ga K C)) none
  | som {C : Str} {dx : Addr} {gs : List (Str × V)} {fs : List (Str × D)} : F dx = some (.xd gs) → fs.map (·.1) = gs.map (·.1) → RpA K F (gs.map (·.2)) (fs.map (·.2)) → XdOk K F C fs (.ref (He.ga K C)) (some dx)
abbrev PoX := Str → List (Str × D) → Rho → Prop
abbrev MX := Rho → PoX → Prop
def XW (K : Fg) (e : En) (F : Hp) (P : PoX) (W : WX) : Prop := ∀ C fs r' s' F' H' cls d, P C fs r' → Ok K e F' r' s' H' → Sub F F' → XdOk K F' C fs cls d → W cls d s' H'
theorem XW.mono {K : Fg} {e : En} {F G : Hp} {P : PoX} {W : WX} (h : XW K e F P W) (q : Sub F G) : XW K e G P W := fun C fs r' s' F' H' cls d a b c x => h C fs r' s' F' H' cls d a b (q.trans c) x
def TX (K : Fg) (e : En) (m : MX) (W : WX) : L2.St → Hp → Prop := fun s H => ∃ F r, Ok K e F r s H ∧ ∃ P : PoX, m r P ∧ XW K e F P W
/-- an expression, a statement, statements that raise -/
def EX (X : Cx) (a : Expr) (m : MX) : Prop := ∀ (e : En) (W : WX), Takes X W → PE X a fun s H _ => TX X.K e m W s H
def SX (X : Cx) (a : Stmt) (m : MX) : Prop := ∀ (e : En) (W : WX), Takes X W → PS X a fun _ s H => TX X.K e m W s H
def SsX (X : Cx) (a : List Stmt) (m : MX) : Prop := ∀ (e : En) (W : WX), Takes X W → PSs X a fun _ s H => TX X.K e m W s H
def xNo : MX := fun _ _ => False
def xThen (m : MS) (n : MX) : MX := fun r P => m r ⟨fun r' => n r' P, fun _ _ => False, fun _ => False, fun _ => False⟩
def xIf (t : MT) (m n : MX) : MX := fun r P => t r fun b r1 => brK b (m r1 P) (n r1 P)
section
variable {X : Cx} {a c : Expr} {st : Stmt} {rest sa sb : List Stmt} {m n : MX} {ms : MS} {ta : MT} {pos : Pos} {x : Str} {pos' : Pos} {i : Nat}
theorem sx_expr (h : EX X a m) (hs : swapsWith a none pos.line X.env = pure false := by rfl) : SX X (.Expr a pos) m := fun e W tk => ps_expr (h e W tk) hs
theorem ssx_no : SsX X rest xNo := fun e W tk => ⟨fun pins s σ H D I ⟨F, r, k, P, hm, _⟩ => hm.elim⟩
theorem ssx_here (h : SX X st m) : SsX X (st :: rest) m := fun e W tk => ⟨fun pins s σ H D I hx => by
  have z : PSs X (st :: rest) (tSeq (fun _ s H => TX X.K e m W s H) fun _ _ _ => False) := pss_cons (h e W tk) ⟨fun _ _ _ _ _ _ z => z.elim⟩
  exact z.run pins s σ H D I hx⟩
theorem ssx_then (h1 : DS X.nox st ms) (h2 : SsX X rest m) : SsX X (st :: rest) (xThen ms m) := fun e W tk => ⟨fun pins s σ H D I ⟨F, r, k, P, hm, hP⟩ => by
  have z : PSs X (st :: rest) (tSeq (TSt X.K e ms) fun _ s H => TX X.K e m W s H) := pss_cons (PS_nox (h1 e)) (h2 e W tk)
  exact z.run pins s σ H D I ⟨F, r, k, _, hm, ⟨fun r' s' F' H' hn k' q => ⟨F', r', k', P, hn, hP.mono q⟩, fun _ _ _ _ _ _ z => z.elim, fun _ _ _ _ z => z.elim, fun _ _ _ _ z => z.elim⟩⟩⟩
theorem sx_if (hc : DT X.nox c ta) (ha : SsX X sa m) (hb : SsX X sb n) : SX X (.If c sa sb pos) (xIf ta m n) := fun e W tk => ⟨fun pins s σ H D I ⟨F, r, k, P, hm, hP⟩ =>
  (ps_if (PT.nox (hc e)) (ha e W tk) (hb e W tk)).run pins s σ H D I ⟨F, r, k, _, hm, fun b r1 F1 H1 hp k1 q => by
    cases b with
    | true => rw [if_pos rfl]; exact ⟨F1, r1, k1, P, hp, hP.mono q⟩
    | false => rw [if_neg Bool.false_ne_true]; exact ⟨F1, r1, k1, P, hp, hP.mono q⟩⟩⟩
end
abbrev CtX := List Ar → (Str → List (Str × D) → Prop) → Prop
def spX (K : Fg) (n : Nat) (c : CtX) : List V → Hp → XK → Prop := fun vs H E => ∃ F as, vs.length = n ∧ Sub F H ∧ ArsOk K F H as vs ∧ Apart as vs ∧ ∃ P, c as P ∧ ∀ C fs cls d F' H', P C fs → Did K F H as vs F' H' as → XdOk K F' C fs cls d → E cls d H'
structure FnX (P : Program) (w : World) (K : Fg) (mg : Str → Option Value) (base : Heap) (k : Nat) (f : Addr) (fd : FuncData) (ps : List Str) (c : CtX) : Prop where
  run : ∀ (A : Around) (outer : List Env) (s : Shared) (H : Hp) (args : Args) (us : List Value) (vs : List V) (E : XK), Room k A → A.guards = some [] → Env0 P w K mg base A outer s H → BindsTo s fd args (ps.zip us) → Vals vs us → spX K ps.length c vs H E →
    codeAny (model P w) A (.call (.ref f) args) (CR (L2.CX P w) outer P w H s (fun _ _ => False) E) s
theorem FnX.mono {P : Program} {w : World} {K : Fg} {mg : Str → Option Value} {base : Heap} {j k : Nat} {f : Addr} {fd : FuncData} {ps : List Str} {c : CtX} (F : FnX P w K mg base j f fd ps c) (h : j ≤ k) : FnX P w K mg base k f fd ps c :=
  ⟨fun A outer s H args us vs E hr => F.run A outer s H args us vs E (hr.mono h)⟩
theorem FnX.imp {P : Program} {w : World} {K : Fg} {mg : Str → Option Value} {base : Heap} {k : Nat} {f : Addr} {fd : FuncData} {ps : List Str} {c c' : CtX} (F : FnX P w K mg base k f fd ps c) (h : ∀ as P, c' as P → c as P) : FnX P w K mg base k f fd ps c' :=
  ⟨fun A outer s H args us vs E hr hg he hb hv ⟨G, as, h1, h2, h3, h4, P, h5, h6⟩ => F.run A outer s H args us vs E hr hg he hb hv ⟨G, as, h1, h2, h3, h4, P, h _ _ h5, h6⟩⟩
/-- what a body raises, as a contract; the arguments are data -/
def ctX (n : Nat) (m : MX) : CtX := fun as P => rqB (Nat.ble as.length n) <| strict (startR n as) fun r => m r fun C fs r' => onO (endArs 0 as r') fun as' => as' = as ∧ P C fs
section
variable {P : Program} {w : World} {K : Fg} {mg : Str → Option Value} {base : Heap} {x qual : Str} {params : Arguments} {body : List Stmt} {scope : Scope} {dvs : List V} {kws : List (Str × V)} {f : Addr} {fd : FuncData}
theorem fnx_def {N ps : List Str} {k : Nat} {m : MX} (F : FunD K x qual params body scope dvs kws f fd) (S : FnScope N ps scope)
    (hbody : ∀ (cdv : Value) (A : Around) (outer : List Env) (s : Shared) (H : Hp) (E : XK), Room k (A.deeper (envOfC qual scope s.heap.objs.size f cdv)) → A.guards = some [] → SsX (cxOf (L2.CX P w) P w K mg base N qual scope f cdv A outer s H E) body m) : FnX P w K mg base (k + 1) f fd ps (ctX N.length m) := by
  obtain ⟨oc, od, dV, kV, doc, pm, an, cdv, ct, osl, rfl, lk, hcd, _, _⟩ := F.ex
  refine ⟨fun A outer s H args us vs E hr hgu e0 hb r ⟨F, as, hl, hs, ha, hap, Pp, hc, hP⟩ => ?_⟩
  have KX : K.In s.heap := e0.mod.kin.keeps fun b o e => (e0.bs b o e).1
  have lim : s.heap.NoLimit := e0.mod.nolimit.keeps fun b o e => (e0.bs b o e).1
  have hkind : ∀ y ∈ ps.zip us, scope.names.lookup y.1 = some .local ∨ (scope.names.lookup y.1 = some .cell ∧ ((cellsFrom (s.heap.objs.size + 1) scope.names []).lookup y.1).isSome = true) := by
    intro y hy
    obtain ⟨n, v⟩ := y
    rcases S.par n (List.of_mem_zip hy).1 with q | q
    · exact .inl q
    · exact .inr ⟨q, PySem.W.cellsFrom_some _ _ _ (.inl q)⟩
  refine codeAny_call_function hr.depth (KX _ _ lk) rfl S.co S.gen rfl (PySem.W.codeRec_of KX hcd) (hb _ _ _ _ (wpAny_newFunctionEnv_cells S.kind hkind ?_))
  rintro env rfl s1 x
  refine ⟨lim.keeps x.toInCall.keep, codeAny_func ?_⟩
  have I : L2.Inv (cxOf (L2.CX P w) P w K mg base N qual scope f cdv A outer s H E) [] (L2.start N vs) H s1 := inv_start S hr.hd e0 hl r x
  obtain ⟨hn, hc⟩ := rqB.ex hc
  have ok : Ok K (enOf F H as vs) F (startR N.length as) (L2.start N vs) H := Ok.start (Nat.le_of_ble_eq_true hn) hs ha hap
  have tk : Takes (cxOf (L2.CX P w) P w K mg base N qual scope f cdv A outer s H E) (fun cls d _ H => E cls d H) := takes_of rfl rfl rfl rfl
  have run := (hbody cdv A outer s H E (hr.deeper _) hgu (enOf F H as vs) _ tk).run [] s1 (L2.start N vs) H ⟨fun _ _ => False, fun _ _ => False, fun _ _ => False, fun _ _ => False⟩ I ⟨F, _, ok, _, hc.ex, fun C fs r' s' F' H' cls d hx k' q' t => by
    obtain ⟨as', ea, e1, hp⟩ := onO.ex hx
    subst e1
    exact hP C fs cls d F' H' hp (k'.did hs ha ea) t⟩
  refine wpAny_mono run (fun fl s' z => ?_) fun _ _ z => z
  cases fl with
  | ret u => obtain ⟨v, σ', H', J, rv, q⟩ := z; exact q.elim
  | next => obtain ⟨σ', H', J, q⟩ := z; exact q.elim
  | brk => obtain ⟨_, _, _, q⟩ := z; exact q.elim
  | cont => obtain ⟨_, _, _, q⟩ := z; exact q.elim
end
end DL
namespace DL
open PySem L2 PyProof.Rows
structure ClX (c : CtX) (as : List Ar) (K : Str → List (Str × D) → Prop) : Prop where
  h : c as K
def mFnX (c : CtX) (G : List R → List R → List R) (n m : Nat) (ms mk : MA) : MX := fun r P => ms r fun xs r1 => mk r1 fun zs r2 => rqB (decide (xs.length = n) && decide (zs.length = m)) (rqB (once (borSlots (G xs zs))) (onO (arsOf r2 (G xs zs)) fun as => ClX c as fun C fs => P C fs r2))
theorem backArs_self : ∀ {xs : List R} {as : List Ar} {r : Rho}, arsOf r xs = some as → backArs r xs as = some r
  | [], as, r, h => by cases h; rfl
  | x :: xs, as, r, h => by
    simp only [arsOf] at h
    split at h
    · rename_i a as' e1 e2
      cases h
      have ih := backArs_self e2
      cases x with
      | val d => exact ih
      | own m => exact ih
      | ob o => exact ih
      | adr n b => exact ih
      | bor i =>
        simp only [arOf] at e1
        split at e1
        · rename_i b m z
          cases e1
          have hi := (List.getElem?_eq_some_iff.mp z).1
          have e : r.set i (some (.box b m)) = r := by
            refine List.ext_getElem? fun j => ?_
            by_cases q : i = j
            · subst q; rw [List.getElem?_set_self hi, z]
            · rw [List.getElem?_set_ne q]
          simp only [backArs, z, e]
          exact ih
        · cases e1
    · cases h
section
variable {X : Cx} {a : Expr} {es : List Expr} {ma : ME} {ms mk : MA} {kws : List Keyword} {k n : Nat} {f : Addr} {fd : FuncData} {ps ks : List Str} {c : CtX} {x : Str} {p pos : Pos} {G : List R → List R → List R}
theorem run_fnx {pins : List (Addr × Obj)} {σ : L2.St} {H : Hp} {s : Shared} {Q : VK} {us ws : List Value} {vs zs : List V} {g : List Value → List Value → List Value} {gV : List V → List V → List V} {E : XK} {W : WX} (tk : Takes X W) (F : FnX X.prog X.w X.K X.mg X.base k f fd ps c) (hr : Room k X.A) (hgu : X.A.guards = some [])
    (hb : KBn X.K fd ps n ks g gV) (I : L2.Inv X pins σ H s) (r : Vals vs us) (rz : Vals zs ws) (l1 : vs.length = n) (l2 : zs.length = ks.length) (h : spX X.K ps.length c (gV vs zs) H E) (hW : ∀ cls d H', E cls d H' → W cls d σ H') : wpAny (model X.prog X.w) X.A (call (.ref f) us (ks.zip ws)) (EP X pins σ Q) X.xe s := by
  refine wpAny_call (codeAny_mono (F.run X.A X.stack s H ⟨us, ks.zip ws⟩ (g us ws) (gV vs zs) E hr hgu I.env0 (hb.to s us ws I.kIn (r.length.symm.trans l1) (rz.length.symm.trans l2)) (hb.rel r rz) h) fun y s' hq => ?_)
  cases y with
  | error e => exact tk _ _ (XE.of_call I hW hq)
  | ok fl =>
    cases fl with
    | ret u =>
      obtain ⟨v, H', _, _, _, _, _, q⟩ := hq
      exact q.elim
    | next => exact False.elim hq
    | brk => exact False.elim hq
    | cont => exact False.elim hq
/-- what is left to do at the call -/
def XLeft (K : Fg) (ps ks : List Str) (n : Nat) (c : CtX) (gV : List V → List V → List V) (W : WX) (s : L2.St) (vs zs : List V) (H2 : Hp) : Prop := vs.length = n ∧ zs.length = ks.length ∧ spX K ps.length c (gV vs zs) H2 fun cls d H' => W cls d s H'
theorem fnx_read {e : En} {W : WX} {gV : List V → List V → List V} (hl : ∀ vs zs, vs.length = n → zs.length = ks.length → (gV vs zs).length = ps.length) (hG : ∀ (F : Hp) (s : L2.St) xs vs zs ws, RTs X.K F s xs vs → RTs X.K F s zs ws → vs.length = n → ws.length = ks.length → RTs X.K F s (G xs zs) (gV vs ws))
    {s : L2.St} {H : Hp} (h : TX X.K e (mFnX c G n ks.length ms mk) W s H) : (TAl X.K e ms) s H fun vs H1 => (TAl X.K e mk) s H1 fun zs H2 => XLeft X.K ps ks n c gV W s vs zs H2 := by
  obtain ⟨F, r, k, P, hm, hP⟩ := h
  refine ⟨F, r, k, _, hm, fun xs r1 vs F1 H1 hx k1 q1 t1 => ⟨F1, r1, k1, _, hx, fun zs r2 ws F2 H2 hz k2 q2 t2 => ?_⟩⟩
  obtain ⟨nn, hz2⟩ := rqB.ex hz
  rw [Bool.and_eq_true, decide_eq_true_eq, decide_eq_true_eq] at nn
  obtain ⟨n1, n2⟩ := nn
  obtain ⟨ho, hz3⟩ := rqB.ex hz2
  obtain ⟨as, ea, hz4⟩ := onO.ex hz3
  have hc := hz4.h
  have l1 : vs.length = n := t1.length.symm.trans n1
  have l2 : ws.length = ks.length := t2.length.symm.trans n2
  have t := hG F2 s xs vs zs ws (t1.mono q2) t2 l1 l2
  obtain ⟨ha, hb⟩ := t.ars k2 ea
  refine ⟨l1, l2, F2, as, hl _ _ l1 l2, k2.sub, ha, ?_, _, hc, fun C fs cls d F' H' hx did re => hP C fs r2 s F' H' cls d hx (call_ok t k2 ho ea did (backArs_self ea)) ((q1.trans q2).trans did.sub) re⟩
  refine ⟨fun i p m _ _ ⟨i2, G, e5, _⟩ => arsOf_nogh ea i2 G e5, ?_⟩
  intro i j p m m' e1 e2 e3 e4
  obtain ⟨i1, b1, g1, g2⟩ := hb i m e1
  obtain ⟨i2, b2, g3, g4⟩ := hb j m' e2
  obtain ⟨v1, u1, u2⟩ := t.get g1
  obtain ⟨v2, u3, u4⟩ := t.get g3
  rw [e3] at u1; cases u1
  rw [e4] at u3; cases u3
  cases u2 with | bor u2 =>
  cases u4 with | bor u4 =>
  have := k2.sep i1 i2 p _ _ _ _ g2 g4 u2 u4
  subst this
  exact once_apart ho g1 g3
theorem ex_fn (F : FnX X.prog X.w X.K X.mg X.base k f fd ps c) (hr : Room k X.A) (hgu : X.A.guards = some []) (hg : Gl X x) (hm : X.mg x = some (.ref f)) (hk : PySem.W.keepIn X.K (.ref f) = true) (hb : Bd X.K fd ps n [] G)
    (ha : DA X.nox (a :: es) ms) (hdb : (x == ("__debug__" : Str)) = false := by decide) (he : starEach (a :: es) X.env = (false, eval a X.env) :: starEach es X.env := by rfl) (hpl : (backTo pos (starEach es X.env)).any (·.1) = false := by rfl) :
    EX X (.Call (.Name x p) (a :: es) [] pos) (mFnX c G n 0 ms aNil) := fun e W tk => by
  obtain ⟨g, gV, hB, hl, hG⟩ := hb.ex
  refine ⟨fun pins s σ H Q I h => wpAny_Call_Name_kw (ld_glob I hg hm (PySem.W.callWith_K (h₀ := X.base) I.ok.mod.kin hk (thn ((PA_nox (ha e)).run pos pins s σ H _ I (fnx_read (ks := []) hl hG h)) ?_) he hpl) hdb)⟩
  rintro us s1 ⟨vs, H1, I1, r, q⟩
  obtain ⟨F1, r1, k1, P1, hm1, h1⟩ := q
  obtain ⟨l1, l2, q2⟩ := h1 _ r1 [] F1 H1 hm1 k1 (Sub.refl _) .nil
  exact ⟨I1.kIn, run_fnx tk F hr hgu hB I1 r .nil l1 rfl q2 fun _ _ _ z => z⟩
end
/-- the module's name x is a def that raises as the contract c tells -/
structure DefX (P : Program) (w : World) (K : Fg) (mg : Str → Option Value) (base : Heap) (k : Nat) (x : Str) (n : Nat) (ks : List Str) (G : List R → List R → List R) (c : CtX) : Prop where
  ex : ∃ f fd ps, mg x = some (.ref f) ∧ PySem.W.keepIn K (.ref f) = true ∧ FnX P w K mg base k f fd ps c ∧ Bd K fd ps n ks G
theorem DefX.of {P : Program} {w : World} {K : Fg} {mg : Str → Option Value} {base : Heap} {k n : Nat} {x : Str} {ks ps : List Str} {G : List R → List R → List R} {c : CtX} {f : Addr} {fd : FuncData} (hm : mg x = some (.ref f)) (hk : PySem.W.keepIn K (.ref f) = true) (F : FnX P w K mg base k f fd ps c) (hb : Bd K fd ps n ks G) : DefX P w K mg base k x n ks G c := ⟨⟨f, fd, ps, hm, hk, F, hb⟩⟩
section
variable {X : Cx} {a : Expr} {es : List Expr} {ms mk : MA} {kws : List Keyword} {k n : Nat} {ks : List Str} {c : CtX} {x : Str} {p pos : Pos} {G : List R → List R → List R}
theorem ex_def (h : DefX X.prog X.w X.K X.mg X.base k x n [] G c) (hr : Room k X.A) (hgu : X.A.guards = some []) (hg : Gl X x)
    (ha : DA X.nox (a :: es) ms) (hdb : (x == ("__debug__" : Str)) = false := by decide) (he : starEach (a :: es) X.env = (false, eval a X.env) :: starEach es X.env := by rfl) (hpl : (backTo pos (starEach es X.env)).any (·.1) = false := by rfl) :
    EX X (.Call (.Name x p) (a :: es) [] pos) (mFnX c G n 0 ms aNil) := by
  obtain ⟨f, fd, ps, h1, h2, h3, h4⟩ := h.ex
  exact ex_fn h3 hr hgu hg h1 h2 h4 ha hdb he hpl
end
/-- the class x of the text: its own __init__ keeps f -/
structure XMk1 (P : Program) (w : World) (K : Fg) (mg : Str → Option Value) (base : Heap) (x f : Str) : Prop where
  ex : ∃ (tl : List Value) (newId Bn initId : String) (fI : Addr) (fd : FuncData), mg x = some (.ref (He.ga K x)) ∧ XBase tl newId Bn initId ∧ XcC K (He.ga K x) tl newId ∧ PySem.W.findIn K (.ref (He.ga K x)) f = some none ∧
    PySem.W.findIn K (.ref (He.ga K x)) "__init__" = some (some (.ref fI)) ∧ PySem.W.typeIn K (.ref fI) = some (.type "function") ∧ FnOk P w K mg base CX0 1 fI fd ["self", f] (spXI K tl newId f) ∧ Binds K fd ["self", f] []
def xRaise1 (x f : Str) (ma : ME) : MX := fun r P => ma r fun y r1 => onP (hold r1 y.tmp) fun qa qb => strict qb fun r2 => P x [(f, qa)] r2
section
variable {X : Cx} {a : Expr} {ma : ME} {x f : Str} {p p2 pos pos' : Pos} {tx : Str} {j k : Nat}
theorem sx_raise1 (hc : X.calm = true) (M : XMk1 X.prog X.w X.K X.mg X.base x f) (hr : Room k X.A) (h1 : 2 ≤ k) (hg : Gl X x) (ha : DE X.nox a ma)
    (hdb : (x == ("__debug__" : Str)) = false := by decide) (he : starEach [a] X.env = (false, eval a X.env) :: starEach [] X.env := by rfl) (hpl : (backTo pos (starEach [] X.env)).any (·.1) = false := by rfl) :
    SX X (.Raise (some (.Call (.Name x p) [a] [] pos)) none pos') (xRaise1 x f ma) := fun e W tk => by
  obtain ⟨tl, newId, Bn, initId, fI, fd, m1, m2, m3, m4, m5, m6, m7, m8⟩ := M.ex
  refine PS.imp (ps_raise hc tk (pmk_x (k := 1) m2 m3 m4 m5 m6 m7 (hr.mono h1) m8 hg m1 (PE.nox (ha.tmp e)) hdb he hpl)) fun D s H ⟨F, r, k, P, hm, hP⟩ => ?_
  refine ⟨F, r, k, fun y r1 => onP (hold r1 y) fun qa qb => strict qb fun r2 => P x [(f, qa)] r2, hm, fun y r1 v F1 H1 hx k1 q1 t1 d nd => ?_⟩
  obtain ⟨qa, qb, e1, hp⟩ := onP.ex hx
  obtain ⟨F2, k2, q2, rp⟩ := t1.hold k1 e1
  have fr := k2.free nd
  refine hP x [(f, qa)] qb s _ _ _ _ hp.ex (k2.lay nd) ((q1.trans q2).trans (Sub.new fr.1)) (.som (gs := [(f, v)]) upd_same rfl (.cons (rp.mono (Sub.new fr.1)) .nil))
end
end DL
namespace DL
open PySem L2 PyProof.Rows
section
open PySem.W
variable {M : Model} {K : Frag}
theorem exm_five {c1 c2 c3 c4 c5 cls : Value} {tp e : Addr} {b : Bool} {h : Heap} (X : K.In h) (LT : Looks M h (typeOf (.ref e)) cls) (hp : h.get? tp = some { cls := .type "tuple", data := .seq [c1, c2, c3, c4, c5].toArray }) (hx : exmAny K cls [c1, c2, c3, c4, c5] = some b) : Looks M h (excMatches (.ref e) (.ref tp)) b := by
  intro A Q E s k₀ q
  obtain ⟨hh, g, d, tk, os⟩ := s; have k : ∀ b o, h.get? b = some o → hh.get? b = some o := k₀
  have L0 : Looks M h (isInstance (.ref tp) (.type "tuple")) true := ((Looks.ld hp).andThen .now).andThen (Looks.of_pure isSubtype_tuple_tuple)
  obtain ⟨b1, d1, x1, y1, z1⟩ := exmAny_cons hx; obtain ⟨e1, S1⟩ := exm_cls (M := M) X x1
  have e1 := e1.keeps k; have S1 := S1.keeps k
  obtain ⟨b2, d2, x2, y2, z2⟩ := exmAny_cons y1; obtain ⟨e2, S2⟩ := exm_cls (M := M) X x2
  have e2 := e2.keeps k; have S2 := S2.keeps k
  obtain ⟨b3, d3, x3, y3, z3⟩ := exmAny_cons y2; obtain ⟨e3, S3⟩ := exm_cls (M := M) X x3
  have e3 := e3.keeps k; have S3 := S3.keeps k
  obtain ⟨b4, d4, x4, y4, z4⟩ := exmAny_cons y3; obtain ⟨e4, S4⟩ := exm_cls (M := M) X x4
  have e4 := e4.keeps k; have S4 := S4.keeps k
  obtain ⟨b5, d5, x5, y5, z5⟩ := exmAny_cons y4; obtain ⟨e5, S5⟩ := exm_cls (M := M) X x5
  have e5 := e5.keeps k; have S5 := S5.keeps k
  have w5 : some false = some d5 := y5
  cases w5
  have LT := LT.keeps k; have L0 := L0.keeps k; have hp' := k _ _ hp
  subst z1 z2 z3 z4 z5
  unfold excMatches
  refine wpAny_bind (L0.at ?_); dsimp only; rw [if_pos rfl]
  first
    | (refine wpAny_bind (wpAny_seqItems hp' rfl ?_))
    | (refine wpAny_bind (wpAny_bind (wpAny_seqItems hp' rfl (wpAny_pure ?_))))
  dsimp only [Option.getD_some, Option.getD]
  cases b1 <;> cases b2 <;> cases b3 <;> cases b4 <;> cases b5 <;> ((repeat (first | simp only [List.forIn_cons, List.forIn_nil, Bool.not_true, Bool.false_eq_true, if_false, if_true] | lk)); exact q)
end
/-- the names of the clause's classes -/
inductive ClsNs (X : Cx) : List Expr → List Str → Prop
  | nil : ClsNs X [] []
  | cons {x : Str} {p : Pos} {es : List Expr} {xs : List Str} : Gl X x → X.mg x = some (.ref (He.ga X.K x)) → (x == ("__debug__" : Str)) = false → starEach (.Name x p :: es) X.env = (false, eval (.Name x p) X.env) :: starEach es X.env → ClsNs X es xs → ClsNs X (.Name x p :: es) (x :: xs)
abbrev clsV (K : Fg) (xs : List Str) : List Value := xs.map fun x => .ref (He.ga K x)
/-- what the clause's test asks -/
def TestX (X : Cx) (te : Expr) (cs : List Value) : Prop := ∀ (a : Addr) (pn pins : List (Addr × Obj)) (σ : L2.St) (H : Hp) (s : Shared) (Q : Value → Shared → Prop) (E : Value → Shared → Prop), L2.Inv (X.suite a pn) pins σ H s →
  (∀ cv s', L2.Inv (X.suite a pn) pins σ H s' → (∀ b o, s.heap.get? b = some o → s'.heap.get? b = some o) → s'.os = s.os → AllBare s'.gens →
    (∀ (cls : Value) (e : Addr) (b : Bool), PySem.W.Looks (model X.prog X.w) s'.heap (typeOf (.ref e)) cls → PySem.W.exmAny X.K cls cs = some b → PySem.W.Looks (model X.prog X.w) s'.heap (excMatches (.ref e) cv) b) → Q cv s') →
  wpAny (model X.prog X.w) (X.A.mark (some (.ref a))) (eval te X.env) Q E s
theorem clsNs_sp {X : Cx} {a : Addr} {pn pins : List (Addr × Obj)} {σ : L2.St} {H : Hp} {s : Shared} {pos : Pos} {es : List Expr} {xs : List Str} (h : ClsNs X es xs) (I : L2.Inv (X.suite a pn) pins σ H s) {Q : List Value → Shared → Prop} {E : Value → Shared → Prop} (q : Q (clsV X.K xs) s) :
    wpAny (model X.prog X.w) (X.A.mark (some (.ref a))) (spliced (backTo pos (starEach es X.env))) Q E s := by
  induction h generalizing Q with
  | nil => exact Calls.spliced_nil q
  | @cons x p es xs hg hm hd hst _ ih =>
    rw [hst]
    show wpAny _ _ (spliced ((false, eval (.Name x p) X.env) :: backTo pos (starEach es X.env))) _ _ s
    exact Calls.spliced_cons (ld_glob (X := X.suite a pn) I hg hm (ih q) hd)
theorem test_tup {X : Cx} {es : List Expr} {xs : List Str} {k : Nat} {p : Pos} (hn : ClsNs X es xs) (hl : 2 ≤ xs.length ∧ xs.length ≤ 5) : TestX X (.Tuple es k p) (clsV X.K xs) := fun a pn pins σ H s Q E I h => by
  refine wpAny_Tuple_spliced (clsNs_sp hn I ⟨?_, ?_⟩)
  · rw [List.length_map, sizeLine_eq]; omega
  · refine h _ _ (I.kept (t' := s.toks) fun b o z => Heap.get?_push_of_some _ z) (fun b o z => Heap.get?_push_of_some _ z) rfl I.bare fun cls e b LT hx => ?_
    have hp : (s.heap.push { cls := .type "tuple", data := .seq (clsV X.K xs).toArray }).get? s.heap.objs.size = some { cls := .type "tuple", data := .seq (clsV X.K xs).toArray } := Heap.get?_push_size _ rfl
    have J := (I.kept (t' := s.toks) (fun b o z => Heap.get?_push_of_some { cls := .type "tuple", data := .seq (clsV X.K xs).toArray } z)).kIn
    match xs, hl, hx, hp, J with
    | [x1, x2], _, hx, hp, J => exact PySem.W.exm_tup2 J LT hp hx
    | [x1, x2, x3], _, hx, hp, J => exact PySem.W.exm_tup3 J LT hp hx
    | [x1, x2, x3, x4], _, hx, hp, J => exact PySem.W.exm_tup4 J LT hp hx
    | [x1, x2, x3, x4, x5], _, hx, hp, J => exact exm_five J LT hp hx
    | [], hl, _, _, _ => exact absurd hl.1 (by decide)
    | [_], hl, _, _, _ => exact absurd hl.1 (by simp)
    | _ :: _ :: _ :: _ :: _ :: _ :: _, hl, _, _, _ => exact absurd hl.2 (by simp)
/-- a tracked thing more: an object that was not tracked, and is no frame, no cell, no pin -/
theorem Inv.track {X : Cx} {pins : List (Addr × Obj)} {σ : L2.St} {H : Hp} {s : Shared} {a : Addr} {o : HO} (I : L2.Inv X pins σ H s) (ha : H a = none) (ok : ∀ H', ObjOk X.prog X.w H' s.heap a o) (hnew : ∀ ob, X.s_0.heap.get? a = some ob → X.H_0 a = none → a ∉ X.ex → False)
    (nL : a ≠ X.env.locals) (nC : ∀ x c, X.env.cells.lookup x = some c → c ≠ a) (nP : ∀ p ∈ X.pn ++ pins, p.1 ≠ a) : L2.Inv X pins σ (upd H a o) s :=
  ⟨I.ok, I.os, I.bare, ⟨fun b ob e n hb hx => I.base.keep b ob e n hb hx, fun b ob e n hb hx => I.base.slot b ob e n hb hx, fun b ob e n hx => by
      rw [upd_ne (fun z => by subst z; exact hnew ob e n hx)]; exact I.base.free b ob e n hx, I.base.there, fun b xs e => by
      have z := I.base.tups b xs e
      rw [upd_ne (ne_of_none z ha)]; exact z, fun b ob u e => by
      have z := I.base.frzs b ob u e
      rw [upd_ne (ne_of_none z ha)]; exact z, fun b ps e => by
      obtain ⟨m, z⟩ := I.base.tbls b ps e
      exact ⟨m, by rw [upd_ne (ne_of_none z ha)]; exact z⟩⟩, I.loc, I.cell, by rw [upd_ne (Ne.symm nL)]; exact I.free, fun x c e => by rw [upd_ne (nC x c e)]; exact I.freeC x c e, fun p hp => by
    obtain ⟨h1, h2, h3, h4, h5⟩ := I.pin p hp
    exact ⟨h1, by rw [upd_ne (nP p hp)]; exact h2, h3, h4, h5⟩, fun b u e => by
    by_cases z : b = a
    · subst z; rw [upd_same] at e; cases e; exact ok _
    · rw [upd_ne z] at e
      exact (I.hok b u e).stay (fun c v _ q => q) (fun c q => by rw [upd_ne (ne_of_none q ha)]; exact q) fun c xs q => by rw [upd_ne (ne_of_none q ha)]; exact q, I.len⟩
end DL
namespace DL
open PySem L2 PyProof.Rows
theorem flying_keeps {B h h' : Heap} {l : List Env} {a : Addr} {Z : Obj → Prop} (f : HandSPX.FlyingZ B l a Z h) (k : ∀ b o, h.get? b = some o → h'.get? b = some o) : HandSPX.FlyingZ B l a Z h' := by
  obtain ⟨f1, f2, f3, oe, vs, T, oT, ts, g1, g2, g3, g4, g5, g6, g7, g8, g9⟩ := f
  exact ⟨fun b o z => k b o (f1 b o z), f2, f3.of_keeps fun b o z _ => ⟨o, k b o z, rfl⟩, oe, vs, T, oT, ts, k _ _ g1, g2, g3, g4, g5, g6, k _ _ g7, g8, g9⟩
def wCat (K : Fg) (cs : List Value) (i j : Nat) (D : Ends) : WX := fun cls d σ H => PySem.W.exmAny K cls cs = some true ∧ ∃ C, cls = .ref C ∧ ∀ a, H a = none → D.nx (((σ.set i (some (.ref a))).set j (some (.ref a))).set i none) (upd H a (ExcO a C d))
section
variable {X : Cx} {n : Str} {i j : Nat} {te : Expr} {cs : List Value} {body suite : List Stmt} {b0 : Stmt} {pos pos' : Pos} {tb : WX → TS}
theorem ps_tryX (hs : X.stack = X.env :: X.outer) (hf : X.env.frame = some X.env.locals) (hex : X.ex = []) (hN : X.N.Nodup) (hi : X.N[i]? = some n) (hln : X.env.kindOf n = some .local) (ht : TestX X te cs)
    (hb : ∀ (W : WX) (pn : List (Addr × Obj)) (xe : Value → Shared → Prop), Takes (X.tr pn xe) W → PassesOwn (model X.prog X.w) X.A X.env xe → PSs (X.tr pn xe) body (tb W))
    (hsu : ∀ (a : Addr) (pn : List (Addr × Obj)), PSs (X.suite a pn) (b0 :: suite) (tAsg (tVar i) (gName j))) :
    PS X (.Try body [.ExceptHandler (some te) (some n) (b0 :: suite) pos'] [] [] pos) (fun D σ H => tb (wCat X.K cs i j D) D σ H) := by
  refine ⟨fun pins s σ H D I h => ?_⟩
  have ok := I.ok
  have hfr : X.A.frames = some (X.env :: X.outer) := by (rw [ok.frames, hs])
  refine wpAny_Try_except ?_
  refine wpAny_mono ((hb (wCat X.K cs i j D) (X.pn ++ pins) (fun e s₁ => wpAny (model X.prog X.w) X.A (noteFrame e X.env) (fun _ s₂ => wpAny (model X.prog X.w) X.A (setFlight e none) (fun _ s₃ => wpAny (model X.prog X.w) X.A (handleBy e X.env [.ExceptHandler (some te) (some n) (b0 :: suite) pos']) (SP X pins D) X.xe s₃) X.xe s₂) X.xe s₁) (fun u s' xx => ?_) PassesOwn.looking).run [] s σ H D (I.toTry _) h) (fun f s1 hsp => ?_) (fun e s1 he => he)
  · obtain ⟨a, B, sI, pins', σ', H', cls, d, e1, J', nb, up, sky, na, os, ag, hb1, C, e2, hq⟩ := xx
    subst e1 e2
    have J : L2.Inv X pins σ' H' sI := J'.ofTry ok
    have sky' : Sky B (X.env :: X.outer) a (Zc (.ref C) d) X.env.locals s'.heap := by (rw [← hs]; exact sky)
    show wpAny (model X.prog X.w) X.A (noteFrame (.ref a) X.env) _ _ _; refine Sky.land Zc.steady hfr hf sky' fun h3 fl3 up3 => ?_
    have J3 : L2.Inv X pins σ' H' { s' with heap := h3 } := J.landed nb fl3.1 (up.trans up3) os ag
    obtain ⟨oe3, vs3, he3, hz3, hd3⟩ := fl3.there
    have notFr : ∀ {h : Heap} {o : Obj} {vs : Array Value}, h.FunFrames B (X.env :: X.outer) → h.get? a = some o → o.data = .fields vs → a ∉ frs (X.env :: X.outer) := by
      intro h o vs ff e dd hm
      obtain ⟨_, o', e', hnf⟩ := ff.mem hm
      rw [e] at e'
      cases e'
      exact hnf _ dd
    have nfr := notFr fl3.2.2.1 he3 hd3
    have nL : a ≠ X.env.locals := fun z => nfr (List.mem_filterMap.mpr ⟨X.env, List.mem_cons_self, by (rw [hf, z])⟩)
    have nF : a ∉ X.fs := by
      intro hm
      obtain ⟨e, he, q⟩ := List.mem_filterMap.mp hm
      exact nfr (List.mem_filterMap.mpr ⟨e, List.mem_cons_of_mem _ he, q⟩)
    have hen : B.get? a = none := fl3.2.1
    -- what stood in sI is not a
    have nB : ∀ b o, sI.heap.get? b = some o → b ≠ a := by
      intro b o e z
      subst z
      by_cases hm : b ∈ frs X.stack
      · rw [hs] at hm; exact nfr hm
      · have := nb b o e hm
        rw [hen] at this; cases this
    have S3 := J3.suite he3 hd3 na nL nF
    refine wpAny_handleBy_cons (codeAny_handlers_test ?_) (by intro q; cases q)
    refine ht a _ [] σ' H' { s' with heap := h3 } _ _ S3 fun cv s4 S4 k4 os4 ag4 hlk => ?_
    have fl4 := flying_keeps fl3 k4
    have up4 : h3.UpToSlots s4.heap := Heap.UpToSlots.of_keeps k4
    have LT : PySem.W.Looks (model X.prog X.w) s4.heap (typeOf (.ref a)) (.ref C) := fun A Q E s k q => wpAny_typeOf_ref (k _ _ (k4 _ _ he3)) (by (rw [hz3.1]; exact q))
    refine (hlk _ a true LT hb1).here ?_
    refine codeAny_handlers_suite_as ?_
    refine HandSPX.lands_againZ fl4 fun h5 fl5 up5 => ?_
    have J5 : L2.Inv X pins σ' H' { s4 with heap := h5 } := J.landed nb fl5.1 (((up.trans up3).trans up4).trans up5) (os4.trans os) ag4
    obtain ⟨oe5, vs5, he5, hz5, hd5⟩ := fl5.there
    have S5 := J5.suite he5 hd5 na nL nF
    have hloc : Loc X.env.scope n := .inl hln
    refine store_ok (X := X.suite a ((a, oe5) :: (X.pn ++ pins))) (v := .ref a) S5 hN hi hloc rfl (fun s6 S6 => ?_) (.inr hln)
    have hlt : i < σ'.length := by
      have := J5.len
      have := (List.getElem?_eq_some_iff.mp hi).1
      omega
    refine wpAny_mono ((hsu a ((a, oe5) :: (X.pn ++ pins))).run [] s6 _ H' ⟨fun σ7 H7 => σ7 = (σ'.set i (some (.ref a))).set j (some (.ref a)) ∧ H7 = H', fun _ _ => False, fun _ _ => False, fun _ _ => False⟩ S6 ⟨.ref a, by rw [List.getElem?_set_self hlt], rfl, rfl⟩) (fun f s7 hsp => ?_) (fun _ _ z => False.elim z)
    cases f with
    | next =>
      obtain ⟨σ7, H7, S7, e7, e8⟩ := hsp
      subst e7 e8
      have S7' : L2.Inv X ((a, oe5) :: pins) _ _ s7 := ⟨ok, S7.os, S7.bare, S7.base, S7.loc, S7.cell, S7.free, S7.freeC, fun p hp => S7.pin p (by
        rcases List.mem_append.mp hp with z | z
        · exact List.mem_append_left _ (List.mem_cons_of_mem _ (List.mem_append_left _ z))
        · rcases List.mem_cons.mp z with z | z
          · subst z; exact List.mem_append_left _ List.mem_cons_self
          · exact List.mem_append_left _ (List.mem_cons_of_mem _ (List.mem_append_right _ z))), S7.hok, S7.len⟩
      refine gone_ok S7' hN hi hln fun s8 J8 => ?_
      obtain ⟨pa, pn0, _, _, pc⟩ := J8.pin (a, oe5) (List.mem_append_right _ List.mem_cons_self)
      have J9 : L2.Inv X pins _ _ s8 := ⟨J8.ok, J8.os, J8.bare, J8.base, J8.loc, J8.cell, J8.free, J8.freeC, fun p hp => J8.pin p (by
        rcases List.mem_append.mp hp with z | z
        · exact List.mem_append_left _ z
        · exact List.mem_append_right _ (List.mem_cons_of_mem _ z)), J8.hok, J8.len⟩
      refine ⟨_, _, Inv.track J9 na (fun H'' => ?_) (fun ob e n hx => ?_) nL (fun x c e z => ?_) (fun p hp z => ?_), hq a na⟩
      · refine ⟨⟨oe5, vs5, pa, hz5.1, hz5.2, hd5⟩, ⟨_, pa⟩, fun h1 h2 z k => ?_⟩
        obtain ⟨o1, v1, q1, q2⟩ := z
        exact ⟨o1, v1, k _ q1, q2⟩
      · obtain ⟨o', e'⟩ := J.base.there a ob e hx
        exact nB a o' e' rfl
      · obtain ⟨v, o', e', hdc⟩ := J.cell x c e
        exact nB c o' e' z
      · obtain ⟨z1, _⟩ := J.pin p hp
        exact nB p.1 p.2 z1 z
    | brk => obtain ⟨_, _, _, q⟩ := hsp; exact q.elim
    | cont => obtain ⟨_, _, _, q⟩ := hsp; exact q.elim
    | ret u => obtain ⟨_, _, _, _, _, q⟩ := hsp; exact q.elim
  · cases f with
    | next =>
      obtain ⟨σ', H', J', q⟩ := hsp
      exact wpAny_execs_nil ⟨σ', H', J'.ofTry ok, q⟩
    | brk =>
      obtain ⟨σ', H', J', q⟩ := hsp
      exact ⟨σ', H', J'.ofTry ok, q⟩
    | cont =>
      obtain ⟨σ', H', J', q⟩ := hsp
      exact ⟨σ', H', J'.ofTry ok, q⟩
    | ret u =>
      obtain ⟨v, σ', H', J', r, q⟩ := hsp
      exact ⟨v, σ', H', J'.ofTry ok, r, q⟩
end
end DL
namespace DL
open PySem L2 PyProof.Rows
def sTry (i j : Nat) (CS : List Str) (mb : MS) (mx : MX) : MS := fun r O => mb r O ∨ mx r fun C fs r' => rqB (CS.contains C) (strict (((r'.set i (some (.ob (.exc C fs)))).set j (some (.ob (.exc C fs)))).set i none) O.nx)
theorem XdOk.ob {K : Fg} {F : Hp} {a : Addr} {C : Str} {fs : List (Str × D)} {cls : Value} {d : Option Addr} (h : XdOk K F C fs cls d) (hF : F a = none) : cls = .ref (He.ga K C) ∧ ObOk K (upd F a (ExcO a (He.ga K C) d)) (.ref a) (.exc C fs) := by
  cases h with
  | non => exact ⟨rfl, .exc0 upd_same⟩
  | som h1 h2 h3 => exact ⟨rfl, .exc upd_same (by rw [upd_ne (ne_of_none h1 hF)]; exact h1) h2 (h3.mono (Sub.new hF))⟩
theorem ds_try {X : Cx} {n : Str} {i j : Nat} {te : Expr} {cs : List Value} {body suite : List Stmt} {b0 : Stmt} {pos pos' : Pos} {CS : List Str} {mb : MS} {mx : MX} (hs : X.stack = X.env :: X.outer) (hf : X.env.frame = some X.env.locals) (hex : X.ex = []) (hN : X.N.Nodup) (hi : X.N[i]? = some n) (hln : X.env.kindOf n = some .local) (ht : TestX X te cs)
    (hcat : ∀ C ∈ CS, PySem.W.exmAny X.K (.ref (He.ga X.K C)) cs = some true) (hb : ∀ (pn : List (Addr × Obj)) (xe : Value → Shared → Prop), DSs (X.tr pn xe).nox body mb) (hx : ∀ (pn : List (Addr × Obj)) (xe : Value → Shared → Prop), SsX (X.tr pn xe) body mx)
    (hsu : ∀ (a : Addr) (pn : List (Addr × Obj)), PSs (X.suite a pn) (b0 :: suite) (tAsg (tVar i) (gName j))) : DS X (.Try body [.ExceptHandler (some te) (some n) (b0 :: suite) pos'] [] [] pos) (sTry i j CS mb mx) := fun e => by
  refine PS.imp (ps_tryX (tb := fun W D s H => TSt X.K e mb D s H ∨ TX X.K e mx W s H) hs hf hex hN hi hln ht (fun W pn xe tk _ => ⟨fun pins s σ H D I h => ?_⟩) hsu) fun D s H ⟨F, r, k, O, hm, hO⟩ => ?_
  · rcases h with h | h
    · exact (PSs.nox (hb pn xe e)).run pins s σ H D I h
    · exact (hx pn xe e W tk).run pins s σ H D I h
  · rcases hm with hm | hm
    · exact .inl ⟨F, r, k, O, hm, hO⟩
    · refine .inr ⟨F, r, k, _, hm, fun C fs r' s' F' H' cls d hp k' q xd => ?_⟩
      obtain ⟨hc, hp⟩ := rqB.ex hp
      have hmem : C ∈ CS := by simpa using hc
      have ec : cls = .ref (He.ga X.K C) := by cases xd <;> rfl
      subst ec
      refine ⟨hcat C hmem, _, rfl, fun a ha => ?_⟩
      have fr := k'.free ha
      have k1 : Ok X.K e (upd F' a (ExcO a (He.ga X.K C) d)) r' s' (upd H' a (ExcO a (He.ga X.K C) d)) := k'.lay ha
      have ob := (xd.ob fr.1 (a := a)).2
      have k2 := (k1.storeOb (i := i) ob).storeOb (i := j) ob
      have k3 := k2.wipe [i]
      exact hO.nx _ _ _ _ hp.ex k3 (q.trans (Sub.new fr.1))
def excOf : R → Option (Str × List (Str × D))
  | .ob (.exc C fs) => some (C, fs)
  | _ => none
theorem excOf_of {x : R} {q : Str × List (Str × D)} (h : excOf x = some q) : x = .ob (.exc q.1 q.2) := by
  unfold excOf at h
  split at h
  · cases h; rfl
  · cases h
/-- an error stands at a -/
def ExcAt (H : Hp) (a C : Addr) : Prop := ∃ d, H a = some (ExcO a C d) ∧ ∀ dx, d = some dx → ∃ gs, H dx = some (.xd gs)
theorem ObOk.excAt {K : Fg} {F H : Hp} {v : V} {C : Str} {fs : List (Str × D)} (h : ObOk K F v (.exc C fs)) (s : Sub F H) : ∃ a, v = .ref a ∧ ExcAt H a (He.ga K C) := by
  cases h with
  | exc0 h1 => exact ⟨_, rfl, none, s _ _ h1, fun dx z => by cases z⟩
  | exc h1 h2 _ _ => exact ⟨_, rfl, _, s _ _ h1, fun dx z => by cases z; exact ⟨_, s _ _ h2⟩⟩
def rIsX (K : Fg) (xs : List V) (H : Hp) (Q : VK) : Prop := ∃ (a C : Addr) (b : Bool), ExcAt H a C ∧ ExcC K C ∧ ((∃ c, xs = [.ref a, .ref c] ∧ PySem.W.kitOne K (.ref C) (.ref c) = some b) ∨ ∃ (p : Addr) (l : List Addr), xs = [.ref a, .ref p] ∧ SqT K H p (l.map V.ref) ∧ PySem.W.kitAny K (.ref C) (l.map Value.ref) = some b) ∧ Q (.bl b) H
theorem refs_vals : ∀ {l : List Addr} {us : List Value}, Vals (l.map V.ref) us → us = l.map Value.ref
  | [], _, r => by cases r; rfl
  | a :: l, _, r => by
    cases r with
    | cons h t => cases h; rw [refs_vals t]; rfl
theorem call_isX {X : Cx} : CallR X (.builtin "isinstance") (rIsX X.K) := by
  intro pins s σ H xs us Q I r ⟨a, C, b, ⟨d, h1, h2⟩, T, hx, q⟩
  have x1 : ObjOk X.prog X.w H s.heap a (.ext fun h => ∃ (oe : Obj) (vs : Array Value), h.get? a = some oe ∧ oe.cls = .ref C ∧ oe.dict = d ∧ oe.data = .fields vs) := I.hok a _ h1
  obtain ⟨⟨oe, vs, g1, g2, g3, g4⟩, _, _⟩ := x1
  obtain ⟨od, J⟩ : ∃ od, PySem.W.InstAt s.heap a oe C od := by
    cases d with
    | none => exact ⟨none, g1, g2, by unfold PySem.W.notCls; rw [g4], by rw [g3]; trivial⟩
    | some dx =>
      obtain ⟨gs, h3⟩ := h2 dx rfl
      have x2 : ObjOk X.prog X.w H s.heap dx (.xd gs) := I.hok dx _ h3
      obtain ⟨mA, ⟨o2, es, ep, e2, _⟩, _⟩ := x2
      exact ⟨some o2, g1, g2, by unfold PySem.W.notCls; rw [g4], by rw [g3]; exact e2⟩
  have hcl : (PySem.W.clsIn X.K C).isSome = true := by
    obtain ⟨cd, hc, _⟩ := PySem.W.any_some T.hd
    rw [hc]; rfl
  have Z := PySem.W.kitx_exc (x := a) (od := od) (ox := oe) hcl T.hg T.hk T.hs T.ha T.hn T.ht T.hm
  rcases hx with ⟨c, ex, ek⟩ | ⟨p, l, ex, hp, ek⟩
  · subst ex
    cases r with | cons ra rr =>
    cases rr with | cons rb rr =>
    cases rr
    cases ra; cases rb
    exact PySem.W.kia_one Z I.kIn J ek (fun z => nomatch z) fun tk => ⟨.bl b, H, I.kept (t' := tk) fun _ _ z => z, rfl, q⟩
  · subst ex
    cases r with | cons ra rr =>
    cases rr with | cons rb rr =>
    cases rr
    cases ra; cases rb
    obtain ⟨its, rv, ⟨⟨cc, dd, dt, sl⟩, e1, e2, n, e3⟩, _⟩ := I.tuple hp
    simp only at e2 e3
    subst e2 e3
    have ei := refs_vals rv
    subst ei
    exact PySem.W.kia_tup Z I.kIn J e1 ek (fun z => nomatch z) fun tk => ⟨.bl b, H, I.kept (t' := tk) fun _ _ z => z, rfl, q⟩
/-- what is told of isinstance, by the error's class -/
def mIsX (tb : List (Str × Bool)) (ma : ME) : ME := fun r P => ma r fun x r1 => onO (excOf x.tmp) fun q => onO (tb.lookup q.1) fun b => P (.val (.bool b)) r1
theorem lookup_mem {α : Type} {C : Str} {b : α} : ∀ {tb : List (Str × α)}, tb.lookup C = some b → (C, b) ∈ tb
  | [], h => by cases h
  | (D, c) :: tb, h => by
    simp only [List.lookup] at h
    split at h
    · rename_i e
      cases h
      rw [beq_iff_eq.mp e]
      exact List.mem_cons_self
    · exact List.mem_cons_of_mem _ (lookup_mem h)
theorem de_isX1 {X : Cx} {a : Expr} {ma : ME} {tb : List (Str × Bool)} {y : Str} {p p2 pos : Pos} (hk : ∀ q ∈ tb, PySem.W.kitOne X.K (.ref (He.ga X.K q.1)) (.ref (He.ga X.K y)) = some q.2 ∧ ExcC X.K (He.ga X.K q.1)) (hg : Gl X "isinstance") (hm : X.mg "isinstance" = none) (hv : bootBuiltins "isinstance" = some (.builtin "isinstance"))
    (hgy : Gl X y) (hmy : X.mg y = some (.ref (He.ga X.K y))) (ha : DE X a ma) (hd : (y == ("__debug__" : Str)) = false := by decide) (he : starEach [a, .Name y p2] X.env = (false, eval a X.env) :: starEach [.Name y p2] X.env := by rfl) : DE X (.Call (.Name "isinstance" p) [a, .Name y p2] [] pos) (mIsX tb ma) := fun e =>
  PE.imp (pe_callB call_isX hg hm hv (pa_cons (ha.tmp e) (pa_cons (pe_glob (v := .ref (He.ga X.K y)) hgy hmy rfl hd) pa_nil) he) (he := he)) fun s H Q ⟨F, r, k, P, hm, hP⟩ => ⟨F, r, k, fun x r1 => onO (excOf x) fun q => onO (tb.lookup q.1) fun b => P (.val (.bool b)) r1, hm, fun x r1 v F1 H1 hx k1 q1 t1 => by
    obtain ⟨⟨C, fs⟩, e1, hx2⟩ := onO.ex hx
    obtain ⟨b, e2, hp⟩ := onO.ex hx2
    have e3 := excOf_of e1
    subst e3
    cases t1 with | ob t1 =>
    obtain ⟨ad, ev, hat⟩ := t1.excAt k1.sub
    obtain ⟨hk1, hk2⟩ := hk _ (lookup_mem e2)
    exact ⟨ad, _, b, hat, hk2, .inl ⟨_, by rw [ev], hk1⟩, hP _ r1 _ F1 H1 hp k1 q1 (.val (.bl _))⟩⟩
end DL
namespace DL
open PySem L2 PyProof.Rows
def tXfd (K : Fg) (f : Str) (te : TE) : TE := fun σ H Q => te σ H fun x H1 => ∃ (a C dx : Addr) (gs : List (Str × V)) (v : V), x = .ref a ∧ H1 a = some (ExcO a C (some dx)) ∧ H1 dx = some (.xd gs) ∧ gs.lookup f = some v ∧ XfC K C ∧ PySem.W.findIn K (.ref C) f = some none ∧ Q v H1
theorem pe_xfd {X : Cx} {e : Expr} {te : TE} {pos : Pos} {n : Str} (he : PE X e te) (hb : attributeBase e n X.env (eval e X.env) = eval e X.env := by rfl) : PE X (.Attribute e n pos) (tXfd X.K n te) := by
  refine ⟨fun pins s σ H Q I h => attr_of hb (thn (he.run pins s σ H _ I h) fun u s1 hh => ?_)⟩
  obtain ⟨x, H1, I1, rx, a, C, dx, gs, v, ex, h1, h2, l, T, hno, q⟩ := hh
  subst ex
  have rx : u = Value.ref a := rx
  subst rx
  have x1 : ObjOk X.prog X.w H1 s1.heap a (.ext fun h => ∃ (oe : Obj) (vs : Array Value), h.get? a = some oe ∧ oe.cls = .ref C ∧ oe.dict = some dx ∧ oe.data = .fields vs) := I1.hok a _ h1
  obtain ⟨⟨oe, vs, g1, g2, g3, g4⟩, _, _⟩ := x1
  have hx : ObjOk X.prog X.w H1 s1.heap dx (.xd gs) := I1.hok dx _ h2
  obtain ⟨mA, hns, hr⟩ := hx
  obtain ⟨od, ho, hl⟩ := lookIn_ns hns
  obtain ⟨u, hu, ru⟩ := RelO.some_of (v := v) (o := mA n) (by rw [← l]; exact hr n)
  have J : PySem.W.InstAt s1.heap a oe C (some od) := ⟨g1, g2, by unfold PySem.W.notCls; rw [g4], by rw [g3]; exact ho⟩
  exact HandSPX.exc_get I1.kIn J T.ga T.gg T.exC (PySem.W.findObj_own T.hdC hno rfl (by rw [hl, hu])) (handed_of ru) ⟨v, H1, I1.tok _, ru, q⟩
def mXfd (f : Str) (CS : List Str) (ma : ME) : ME := fun r P => ma r fun x r1 => onO (excOf x.tmp) fun q => rqB (CS.contains q.1) (onO (q.2.lookup f) fun d => P (.val d) r1)
theorem lookup_rp {K : Fg} {F : Hp} {f : Str} {d : D} : ∀ {gs : List (Str × V)} {fs : List (Str × D)}, fs.map (·.1) = gs.map (·.1) → RpA K F (gs.map (·.2)) (fs.map (·.2)) → fs.lookup f = some d → ∃ v, gs.lookup f = some v ∧ Rp K F v d
  | [], [], _, _, h => by cases h
  | [], _ :: _, e, _, _ => by cases e
  | _ :: _, [], e, _, _ => by cases e
  | (g, v) :: gs, (k, c) :: fs, e, r, h => by
    simp only [List.map_cons, List.cons.injEq] at e
    cases r with | cons r1 r2 =>
    have e1 : k = g := e.1
    subst e1
    simp only [List.lookup] at h ⊢
    split at h
    · cases h
      exact ⟨v, by simp_all, r1⟩
    · exact lookup_rp e.2 r2 h
theorem de_xfd {X : Cx} {a : Expr} {ma : ME} {f : Str} {CS : List Str} {pos : Pos} (hk : ∀ C ∈ CS, XfC X.K (He.ga X.K C) ∧ PySem.W.findIn X.K (.ref (He.ga X.K C)) f = some none) (ha : DE X a ma) (hb : attributeBase a f X.env (eval a X.env) = eval a X.env := by rfl) : DE X (.Attribute a f pos) (mXfd f CS ma) := fun e =>
  PE.imp (pe_xfd (ha.tmp e) hb) fun s H Q ⟨F, r, k, P, hm, hP⟩ => ⟨F, r, k, fun x r1 => onO (excOf x) fun q => rqB (CS.contains q.1) (onO (q.2.lookup f) fun d => P (.val d) r1), hm, fun x r1 v F1 H1 hx k1 q1 t1 => by
    obtain ⟨⟨C, fs⟩, e1, hx2⟩ := onO.ex hx
    obtain ⟨hc, hx3⟩ := rqB.ex hx2
    obtain ⟨d, e2, hp⟩ := onO.ex hx3
    have e3 := excOf_of e1
    subst e3
    obtain ⟨T, hno⟩ := hk C (by simpa using hc)
    cases t1 with | ob t1 =>
    cases t1 with
    | exc0 _ => cases e2
    | exc h1 h2 h3 h4 =>
      obtain ⟨w, l, rp⟩ := lookup_rp h3 h4 e2
      exact ⟨_, _, _, _, w, rfl, k1.sub _ _ h1, k1.sub _ _ h2, l, T, hno, hP _ r1 _ F1 H1 hp k1 q1 (.val rp)⟩⟩
/-- facts of classes of errors: a maker with its own __init__ (over ValueError or KeyError), one without, an error's kind, isinstance, an except clause, a base's __init__ -/
inductive XF where
  | mk1 (x f : Str) (ve : Bool) | mk0 (x : Str) (b : Nat) | kin (x : Str) | isA (x : Str) (ys : List Str) (b : Bool) | is1 (x y : Str) (b : Bool) | cat (x : Str) (ys : List Str) | base (x : Str) (ve : Bool) | fld (x f : Str) | isB (x : Str) (T : String) (b : Bool)
def xcB (K : Fg) (C : Addr) (tl : List Value) (newId : String) : Bool := (match K.lookup C with
  | some ⟨.type c, _, .cls cd, sl⟩ => (match cd.mro, sl.toList with
    | .ref C' :: bm, [_, _, _, _, some (.builtin n), _] => decide (c = "type") && (decide (C' = C) && (DLX.refsT tl bm && (cd.hasDict && (!cd.hasDel && decide (n = newId)))))
    | _, _ => false)
  | _ => false) && (decide (PySem.W.findIn K (.ref C) "__setattr__" = some (some (.builtin "object.__setattr__"))) && (decide (PySem.W.subIn K (.ref C) (.type "BaseException") = some true) && (decide (PySem.W.typeIn K (.ref C) = some (.type "type")) && PySem.W.keepIn K (.ref C))))
theorem xcB_ok {K : Fg} {C : Addr} {tl : List Value} {newId : String} (h : xcB K C tl newId = true) : XcC K C tl newId := by
  unfold xcB at h
  simp only [Bool.and_eq_true, decide_eq_true_eq] at h
  obtain ⟨h1, h2, h3, h4, h5⟩ := h
  refine ⟨?_, h2, h3, h4, h5⟩
  split at h1
  · rename_i c dd cd sl hl
    split at h1
    · rename_i C' bm k0 k1 k2 k3 n k5 hm hsl
      simp only [Bool.and_eq_true, decide_eq_true_eq, Bool.not_eq_true'] at h1
      obtain ⟨q1, q2, q3, q4, q5, q6⟩ := h1
      obtain ⟨c1, c2, c3, c4, c5, c6, c7, c8, c9, c10, c11⟩ := cd
      simp only at hm q4 q5
      have esl : sl = #[k0, k1, k2, k3, some (.builtin n), k5] := by
        apply Array.toList_inj.mp
        rw [hsl]
      subst hm q1 q2 q4 q5 q6 esl
      exact ⟨_, _, _, _, _, _, _, _, _, _, _, _, _, _, _, hl, q3⟩
    · cases h1
  · cases h1
def excCB (K : Fg) (C : Addr) : Bool := decide (PySem.W.findIn K (.ref C) "__getattribute__" = some (some (.builtin "BaseException.__getattribute__"))) && (decide (PySem.W.findIn K (.ref C) "__getattr__" = some none) && (decide (PySem.W.subIn K (.ref C) (.type "BaseException") = some true) && (PySem.W.hasDictIn K C &&
  (decide (PySem.W.findIn K (.ref C) "__class__" = some (some (.builtin "object.__class__"))) && (decide (PySem.W.specialIn K (.builtin "object.__class__") "__get__" = some (some (.builtin "getset_descriptor.__get__"))) && (decide (PySem.W.takesIn K (.builtin "object.__class__") = some true) && decide (PySem.W.mroIn K C (.type "object") = some true)))))))
theorem excCB_ok {K : Fg} {C : Addr} (h : excCB K C = true) : ExcC K C := by
  unfold excCB at h
  simp only [Bool.and_eq_true, decide_eq_true_eq] at h
  obtain ⟨h1, h2, h3, h4, h5, h6, h7, h8⟩ := h
  exact ⟨h1, h2, h3, h4, h5, h6, h7, h8⟩
def xbN : Nat → String × String × List Value
  | 0 => ("ValueError.__new__", "ValueError.__init__", [.type "ValueError", .type "Exception", .type "BaseException", .type "object"])
  | 1 => ("LookupError.__new__", "LookupError.__init__", [.type "LookupError", .type "Exception", .type "BaseException", .type "object"])
  | 2 => ("IndexError.__new__", "IndexError.__init__", [.type "IndexError", .type "LookupError", .type "Exception", .type "BaseException", .type "object"])
  | _ => ("RuntimeError.__new__", "RuntimeError.__init__", [.type "RuntimeError", .type "Exception", .type "BaseException", .type "object"])
def initB (o : Option PySem.W.CFound) (n : String) : Bool := match o with
  | some (.val (.builtin m)) => decide (m = n)
  | _ => false
theorem initB_ok {o : Option PySem.W.CFound} {n : String} (h : initB o n = true) : o = some (.val (.builtin n)) := by
  unfold initB at h
  split at h
  · rw [of_decide_eq_true h]
  · cases h
def XF.ok (K : Fg) : XF → Bool
  | .mk1 x f ve => xcB K (He.ga K x) (if ve then HandSPX.veTail else DLX.keTail) (if ve then "ValueError.__new__" else "LookupError.__new__") && (decide (PySem.W.findIn K (.ref (He.ga K x)) f = some none) &&
      (decide (PySem.W.findIn K (.ref (He.ga K x)) "__init__" = some (some (.ref (He.ma K (He.ga K x) "__init__")))) && decide (PySem.W.typeIn K (.ref (He.ma K (He.ga K x) "__init__")) = some (.type "function"))))
  | .mk0 x b => PySem.W.excIn K (He.ga K x) (xbN b).2.2 (xbN b).1 && (PySem.W.keepIn K (.ref (He.ga K x)) && (decide (PySem.W.subIn K (.ref (He.ga K x)) (.type "BaseException") = some true) && decide (PySem.W.typeIn K (.ref (He.ga K x)) = some (.type "type"))))
  | .kin x => excCB K (He.ga K x)
  | .isA x ys b => decide (PySem.W.kitAny K (.ref (He.ga K x)) (clsV K ys) = some b)
  | .is1 x y b => decide (PySem.W.kitOne K (.ref (He.ga K x)) (.ref (He.ga K y)) = some b)
  | .cat x ys => decide (PySem.W.exmAny K (.ref (He.ga K x)) (clsV K ys) = some true)
  | .base x ve => if ve then PySem.W.readsIn K (He.ga K x) (.type "type") && (decide (PySem.W.specialIn K (.ref (He.ga K x)) "__getattribute__" = some (some (.builtin "type.__getattribute__"))) && initB (PySem.W.findCls K (.ref (He.ga K x)) (.type "type") "__init__") "ValueError.__init__")
      else initB (PySem.W.findCls K (.type "KeyError") (.type "type") "__init__") "KeyError.__init__"
  | .fld x f => xfB K (He.ga K x) && decide (PySem.W.findIn K (.ref (He.ga K x)) f = some none)
  | .isB x T b => decide (PySem.W.kitOne K (.ref (He.ga K x)) (.type T) = some b)
section
variable {K : Fg} {mg : Str → Option Value} {x y f : Str} {ys : List Str} {b : Bool}
theorem XF.kin_ok (h : (XF.kin x).ok K = true) : ExcC K (He.ga K x) := excCB_ok h
theorem XF.is1_ok (h : (XF.is1 x y b).ok K = true) : PySem.W.kitOne K (.ref (He.ga K x)) (.ref (He.ga K y)) = some b := of_decide_eq_true h
theorem XF.isB_ok {T : String} (h : (XF.isB x T b).ok K = true) : PySem.W.kitOne K (.ref (He.ga K x)) (.type T) = some b := of_decide_eq_true h
theorem XF.cat_ok (h : (XF.cat x ys).ok K = true) : PySem.W.exmAny K (.ref (He.ga K x)) (clsV K ys) = some true := of_decide_eq_true h
theorem XF.fld_ok (h : (XF.fld x f).ok K = true) : XfC K (He.ga K x) ∧ PySem.W.findIn K (.ref (He.ga K x)) f = some none := by
  obtain ⟨h1, h2⟩ := Bool.and_eq_true_iff.mp h
  exact ⟨xfB_ok h1, of_decide_eq_true h2⟩
theorem XF.baseF_ok (h : (XF.base "KeyError" false).ok K = true) (hm : mg "KeyError" = none) : BaseAt K mg "KeyError" "KeyError.__init__" :=
  .inl ⟨hm, "KeyError", by decide +kernel, by decide, by kernel_rfl, by decide +kernel, initB_ok h⟩
end
section
variable {P : Program} {w : World} {K : Fg} {mg : Str → Option Value} {base : Heap} {x f qual tx : Str} {params : Arguments} {body : List Stmt} {scope : Scope} {fd : FuncData}
theorem XF.mk1_okK (h : (XF.mk1 x f false).ok K = true) (hm : mg x = some (.ref (He.ga K x))) (F : FunD K "__init__" qual params body scope [] [] (He.ma K (He.ga K x) "__init__") fd) (S : FnScope ["self", f] ["self", f] scope)
    (hbody : ∀ (cdv : Value) (A : Around) (outer : List Env) (s : Shared) (H : Hp) (E : XK), PSs (cxOf CX0 P w K mg base ["self", f] qual scope (He.ma K (He.ga K x) "__init__") cdv A outer s H E) body (tXI K DLX.keTail "LookupError.__new__" f tx)) (hb : Binds K fd ["self", f] []) : XMk1 P w K mg base x f := by
  have h' : (xcB K (He.ga K x) DLX.keTail "LookupError.__new__" && (decide (PySem.W.findIn K (.ref (He.ga K x)) f = some none) && (decide (PySem.W.findIn K (.ref (He.ga K x)) "__init__" = some (some (.ref (He.ma K (He.ga K x) "__init__")))) && decide (PySem.W.typeIn K (.ref (He.ma K (He.ga K x) "__init__")) = some (.type "function"))))) = true := h
  simp only [Bool.and_eq_true, decide_eq_true_eq] at h'
  obtain ⟨h1, h2, h3, h4⟩ := h'
  exact ⟨_, _, _, _, _, _, hm, xb_KE, xcB_ok h1, h2, h3, h4, xinit_fn F S hbody, hb⟩
end
abbrev AlY : Type := AlX × Bool
def obsY (fa : List He.Fa) (fn : List He.DefD) (cs : List (Str × D)) (ts : List (Str × Tab)) (xs : List XF) (K : Fg) : AlY := (obsX fa fn cs ts K, xs.all fun f => f.ok K)
def valY (fn : List He.DefD) (ts : List (Str × Tab)) (w : World) : AlY := (valX fn ts w, true)
def obsYG (n : Nat) (fa : List He.Fa) (fn : List He.DefD) (cs : List (Str × D)) (ts : List (Str × Tab)) (xs : List XF) (g : Addr → Option Obj) : AlY := obsY fa fn cs ts xs (He.frG g (He.asD g n))
def SaysY (fa : List He.Fa) (fn : List He.DefD) (cs : List (Str × D)) (ts : List (Str × Tab)) (xs : List XF) (w : World) (K : Fg) : Prop := obsY fa fn cs ts xs K = valY fn ts w
def hookY (n : Nat) (fa : List He.Fa) (fn : List He.DefD) (cs : List (Str × D)) (ts : List (Str × Tab)) (xs : List XF) : PySem.W.Hook where
  α := AlY
  obs := fun s => obsYG n fa fn cs ts xs s.heap.get?
  val := fun w => valY fn ts w
  says := fun w h => ∃ K : Fg, K.In h ∧ SaysY fa fn cs ts xs w K
  of := fun _ _ e => ⟨_, He.frG_in, e⟩
  keeps := fun _ _ _ ⟨K, hK, c⟩ k => ⟨K, PySem.W.Frag.In.keeps hK k, c⟩
theorem obsYG_eq {n : Nat} {fa : List He.Fa} {fn : List He.DefD} {cs : List (Str × D)} {ts : List (Str × Tab)} {xs : List XF} {g : Addr → Option Obj} {s : Shared} (h : ∀ a, g a = s.heap.get? a) : obsYG n fa fn cs ts xs g = (hookY n fa fn cs ts xs).obs s := by
  have e : g = s.heap.get? := funext h
  rw [e]
  rfl
section
variable {fa : List He.Fa} {fn : List He.DefD} {cs : List (Str × D)} {ts : List (Str × Tab)} {xs : List XF} {w : World} {K : Fg}
theorem SaysY.x (c : SaysY fa fn cs ts xs w K) : SaysX fa fn cs ts w K := congrArg (fun z : AlY => z.1) c
theorem SaysY.f (c : SaysY fa fn cs ts xs w K) (i : Nat) {f : XF} (e : xs[i]? = some f := by rfl) : f.ok K = true := by
  have c1 : (xs.all fun f => f.ok K) = true := congrArg (fun z : AlY => z.2) c
  exact List.all_eq_true.mp c1 _ (List.mem_of_getElem? e)
end
end DL
namespace DL
open PySem L2 PyProof.Rows
def rIsXB (K : Fg) (xs : List V) (H : Hp) (Q : VK) : Prop := ∃ (a C : Addr) (b : Bool) (T : String), ExcAt H a C ∧ ExcC K C ∧ xs = [.ref a, .ty T] ∧ PySem.W.kitOne K (.ref C) (.type T) = some b ∧ Q (.bl b) H
theorem call_isXB {X : Cx} : CallR X (.builtin "isinstance") (rIsXB X.K) := by
  intro pins s σ H xs us Q I r ⟨a, C, b, T, ⟨d, h1, h2⟩, TC, ex, ek, q⟩
  have x1 : ObjOk X.prog X.w H s.heap a (.ext fun h => ∃ (oe : Obj) (vs : Array Value), h.get? a = some oe ∧ oe.cls = .ref C ∧ oe.dict = d ∧ oe.data = .fields vs) := I.hok a _ h1
  obtain ⟨⟨oe, vs, g1, g2, g3, g4⟩, _, _⟩ := x1
  obtain ⟨od, J⟩ : ∃ od, PySem.W.InstAt s.heap a oe C od := by
    cases d with
    | none => exact ⟨none, g1, g2, by unfold PySem.W.notCls; rw [g4], by rw [g3]; trivial⟩
    | some dx =>
      obtain ⟨gs, h3⟩ := h2 dx rfl
      have x2 : ObjOk X.prog X.w H s.heap dx (.xd gs) := I.hok dx _ h3
      obtain ⟨mA, ⟨o2, es, ep, e2, _⟩, _⟩ := x2
      exact ⟨some o2, g1, g2, by unfold PySem.W.notCls; rw [g4], by rw [g3]; exact e2⟩
  have hcl : (PySem.W.clsIn X.K C).isSome = true := by
    obtain ⟨cd, hc, _⟩ := PySem.W.any_some TC.hd
    rw [hc]; rfl
  have Z := PySem.W.kitx_exc (x := a) (od := od) (ox := oe) hcl TC.hg TC.hk TC.hs TC.ha TC.hn TC.ht TC.hm
  subst ex
  cases r with | cons ra rr =>
  cases rr with | cons rb rr =>
  cases rr
  cases ra
  have rb : _ = Value.type T := rb
  subst rb
  exact PySem.W.kia_one Z I.kIn J ek (fun z => nomatch z) fun tk => ⟨.bl b, H, I.kept (t' := tk) fun _ _ z => z, rfl, q⟩
theorem de_isXB {X : Cx} {a : Expr} {ma : ME} {tb : List (Str × Bool)} {y : Str} {T : String} {p p2 pos : Pos} (hk : ∀ q ∈ tb, PySem.W.kitOne X.K (.ref (He.ga X.K q.1)) (.type T) = some q.2 ∧ ExcC X.K (He.ga X.K q.1)) (hg : Gl X "isinstance") (hm : X.mg "isinstance" = none) (hv : bootBuiltins "isinstance" = some (.builtin "isinstance"))
    (hgy : Gl X y) (hmy : X.mg y = none) (hvy : bootBuiltins y = some (.type T)) (ha : DE X a ma) (hny : y ≠ "__name__" := by decide) (hd : (y == ("__debug__" : Str)) = false := by decide) (he : starEach [a, .Name y p2] X.env = (false, eval a X.env) :: starEach [.Name y p2] X.env := by rfl) : DE X (.Call (.Name "isinstance" p) [a, .Name y p2] [] pos) (mIsX tb ma) := fun e =>
  PE.imp (pe_callB call_isXB hg hm hv (pa_cons (ha.tmp e) (pa_cons (pe_bltn (v := .ty T) hgy hmy hvy rfl hny hd) pa_nil) he) (he := he)) fun s H Q ⟨F, r, k, P, hm, hP⟩ => ⟨F, r, k, fun x r1 => onO (excOf x) fun q => onO (tb.lookup q.1) fun b => P (.val (.bool b)) r1, hm, fun x r1 v F1 H1 hx k1 q1 t1 => by
    obtain ⟨⟨C, fs⟩, e1, hx2⟩ := onO.ex hx
    obtain ⟨b, e2, hp⟩ := onO.ex hx2
    have e3 := excOf_of e1
    subst e3
    cases t1 with | ob t1 =>
    obtain ⟨ad, ev, hat⟩ := t1.excAt k1.sub
    obtain ⟨hk1, hk2⟩ := hk _ (lookup_mem e2)
    exact ⟨ad, _, b, T, hat, hk2, by rw [ev], hk1, hP _ r1 _ F1 H1 hp k1 q1 (.val (.bl _))⟩⟩
theorem all_nil {α : Type} {p : α → Prop} : ∀ x ∈ ([] : List α), p x := fun x h => by simp at h
theorem all_cons {α : Type} {p : α → Prop} {a : α} {l : List α} (h : p a) (t : ∀ x ∈ l, p x) : ∀ x ∈ a :: l, p x := fun x hx => by
  rcases List.mem_cons.mp hx with e | hx
  · subst e; exact h
  · exact t x hx
end DL
namespace L06
open PySem L2 PyProof.Rows DL
def top (i : Nat) : Stmt := PySem.Challenge.pw_smallreaders_k06_parts_numbered.main.body.getD i (.Pass ⟨0, 0, 0, 0⟩)
def tab_FORMS : Tab := [("nothing", ""), ("never", ""), ("sign", "s"), ("but", "b"), ("row", "p"), ("choice", "p"), ("many", "r"), ("maybe", "r"), ("ahead", "r"), ("not", "r"), ("name", "n"), ("hold", "nr"), ("again", "n"), ("tag", "nr"), ("make", "wr")]
abbrev s_within : Stmt := top 5
abbrev s_all_within : Stmt := top 6
abbrev s_parts_of : Stmt := top 9
abbrev s_numbers_of : Stmt := top 10
abbrev s_part_of : Stmt := top 11
abbrev s_is_free : Stmt := top 12
abbrev s__law_draw : Stmt := top 14
abbrev s__law_all : Stmt := top 15
abbrev s__law_signs : Stmt := top 16
abbrev s__law_names : Stmt := top 17
abbrev s__law_leaf : Stmt := top 18
abbrev s__law_reader : Stmt := top 19
abbrev s__law_book : Stmt := top 20
abbrev s__law_inner : Stmt := top 21
abbrev s__law_parts : Stmt := top 22
abbrev s__law_refused : Stmt := top 23
abbrev s_law : Stmt := top 24
abbrev s_Unknown___init__ : Stmt := clsAt (top 2) 0
end L06
namespace L06H
open PySem L2 PyProof.Rows DL L06
def fn : List He.DefD := [⟨("within", none), "within", "within", defArgs s_within, defBody s_within, defScope s_within, [], []⟩, ⟨("all_within", none), "all_within", "all_within", defArgs s_all_within, defBody s_all_within, defScope s_all_within, [], []⟩, ⟨("parts_of", none), "parts_of", "parts_of", defArgs s_parts_of, defBody s_parts_of, defScope s_parts_of, [], []⟩, ⟨("numbers_of", none), "numbers_of", "numbers_of", defArgs s_numbers_of, defBody s_numbers_of, defScope s_numbers_of, [], []⟩, ⟨("part_of", none), "part_of", "part_of", defArgs s_part_of, defBody s_part_of, defScope s_part_of, [.non], []⟩, ⟨("is_free", none), "is_free", "is_free", defArgs s_is_free, defBody s_is_free, defScope s_is_free, [], []⟩, ⟨("_law_draw", none), "_law_draw", "_law_draw", defArgs s__law_draw, defBody s__law_draw, defScope s__law_draw, [], []⟩, ⟨("_law_all", none), "_law_all", "_law_all", defArgs s__law_all, defBody s__law_all, defScope s__law_all, [], []⟩, ⟨("_law_signs", none), "_law_signs", "_law_signs", defArgs s__law_signs, defBody s__law_signs, defScope s__law_signs, [], []⟩, ⟨("_law_names", none), "_law_names", "_law_names", defArgs s__law_names, defBody s__law_names, defScope s__law_names, [], []⟩, ⟨("_law_leaf", none), "_law_leaf", "_law_leaf", defArgs s__law_leaf, defBody s__law_leaf, defScope s__law_leaf, [], []⟩, ⟨("_law_reader", none), "_law_reader", "_law_reader", defArgs s__law_reader, defBody s__law_reader, defScope s__law_reader, [], []⟩, ⟨("_law_book", none), "_law_book", "_law_book", defArgs s__law_book, defBody s__law_book, defScope s__law_book, [], []⟩, ⟨("_law_inner", none), "_law_inner", "_law_inner", defArgs s__law_inner, defBody s__law_inner, defScope s__law_inner, [], []⟩, ⟨("_law_parts", none), "_law_parts", "_law_parts", defArgs s__law_parts, defBody s__law_parts, defScope s__law_parts, [], []⟩, ⟨("_law_refused", none), "_law_refused", "_law_refused", defArgs s__law_refused, defBody s__law_refused, defScope s__law_refused, [], []⟩, ⟨("law", none), "law", "law", defArgs s_law, defBody s_law, defScope s_law, [], []⟩, ⟨("Unknown", some "__init__"), "__init__", "Unknown.__init__", defArgs s_Unknown___init__, defBody s_Unknown___init__, defScope s_Unknown___init__, [], []⟩]
def fa : List He.Fa := [.glo "within", .glo "all_within", .glo "parts_of", .glo "numbers_of", .glo "part_of", .glo "is_free", .glo "_law_draw", .glo "_law_all", .glo "_law_signs", .glo "_law_names", .glo "_law_leaf", .glo "_law_reader", .glo "_law_book", .glo "_law_inner", .glo "_law_parts", .glo "_law_refused", .glo "law", .free "KeyError", .free "abs", .free "int", .free "isinstance", .free "len", .free "list", .free "min", .free "range", .free "repr", .free "str", .free "tuple", .glo "Unknown", .glo "ReadError"]
def cs : List (Str × D) := [("AGAIN", .str ("again" : Str))]
def ts : List (Str × Tab) := [("FORMS", tab_FORMS)]
abbrev R : PySem.W.OpenRow := PySem.W.OpenLaw.row PySem.Challenge.rw_smallreaders_k06_parts_numbered
def xs : List XF := [.cat "Unknown" ["ReadError", "Unknown"], .is1 "Unknown" "Unknown" true, .kin "Unknown", .isB "Unknown" "KeyError" true, .fld "Unknown" "name", .mk1 "Unknown" "name" false, .base "KeyError" false]
abbrev hk : PySem.W.Hook := hookY 4 fa fn cs ts xs
def ob (s : PySem.W.SharedT) : AlY := obsYG 4 fa fn cs ts xs (HandSHeadRun.getT s)
theorem ob_eq (s : PySem.W.SharedT) : ob s = hk.obs s.abs := obsYG_eq (HandSHeadRun.getT_eq s)
def loose : List Str := (["ReadError", "Unknown", "FORMS", "within", "all_within", "AGAIN", "parts_of", "numbers_of", "part_of", "is_free", "_law_draw", "_law_all", "_law_signs", "_law_names", "_law_leaf", "_law_reader", "_law_book", "_law_inner", "_law_parts", "_law_refused"] : List Str)
theorem run (w : World) : HandSHeadRun.RunEq R (PySem.W.view R.prog [24]) hk ob 6000 loose w := by
  refine PySem.W.byRow2 "special-get-raises" (P := fun w => HandSHeadRun.RunEq R (PySem.W.view R.prog [24]) hk ob 6000 loose w) (fun w => ?_) (fun w => ?_) w
  · intro os
    kernel_rfl
  · intro os
    kernel_rfl
end L06H
namespace L06
open PySem L2 PyProof.Rows DL
/-- what the module says -/
structure Gb (w : World) (K : Fg) (mg : Str → Option Value) : Prop where
  b_KeyError : mg "KeyError" = none
  b_abs : mg "abs" = none
  b_int : mg "int" = none
  b_isinstance : mg "isinstance" = none
  b_len : mg "len" = none
  b_list : mg "list" = none
  b_min : mg "min" = none
  b_range : mg "range" = none
  b_repr : mg "repr" = none
  b_str : mg "str" = none
  b_tuple : mg "tuple" = none
  c_AGAIN : Con K mg "AGAIN" (.str ("again" : Str))
  t_FORMS : TabAt w K mg "FORMS" tab_FORMS
  n_Unknown : GaAt K mg "Unknown"
  n_ReadError : GaAt K mg "ReadError"
  x0 : XF.ok K (.cat "Unknown" ["ReadError", "Unknown"]) = true
  x1 : XF.ok K (.is1 "Unknown" "Unknown" true) = true
  x2 : XF.ok K (.kin "Unknown") = true
  x3 : XF.ok K (.isB "Unknown" "KeyError" true) = true
  x4 : XF.ok K (.fld "Unknown" "name") = true
  x5 : XF.ok K (.mk1 "Unknown" "name" false) = true
  x6 : XF.ok K (.base "KeyError" false) = true
def N_within : List Str := ["reader", "word", "pieces"]
theorem sc_within : FnScope N_within ["reader"] (defScope s_within) := ⟨rfl, rfl, rfl, by decide +kernel, rfl, by decide +kernel, by decide +kernel⟩
def m_within_0 : MS :=
  sRet (mCall cListU (aCons (mOp oIxA (mVar 2) (mVal (.int 0))) (aNil)))
def m_within_1 : MS :=
  sRet (mLst (aCons (mOp oIxA (mVar 2) (mNeg (mVal (.int 1)))) (aNil)))
def m_within_2 : MS :=
  sRet (mLst (aNil))
def m_within_3 : MS :=
  sSeq (sIf (mTru (mSm jEnds (mKix tab_FORMS (mVar 1)) (aCons (mVal (.str ("r" : Str))) (aNil)))) (m_within_1) (sNext))
  (m_within_2)
def m_within_4 : MS :=
  sSeq (sIf (mTest (mOp oEq (mKix tab_FORMS (mVar 1)) (mVal (.str ("p" : Str))))) (m_within_0) (sNext))
  (m_within_3)
def m_within_5 : MS :=
  sSeq (sAsg (mVar 0) (gStar 2 1 (gCs (gNm 1) (gCs (gNm 2) (gNl)))))
  (m_within_4)
def m_within : MS := m_within_5
def mi_within : MS :=
  sSeq (sAsg (mVar 0) (gStar 2 1 (gCs (gNm 1) (gCs (gNm 2) (gNl)))))
  (sSeq (sIf (mTest (mOp oEq (mKix tab_FORMS (mVar 1)) (mVal (.str ("p" : Str))))) (sRet (mCall cListU (aCons (mOp oIxA (mVar 2) (mVal (.int 0))) (aNil)))) (sNext))
  (sSeq (sIf (mTru (mSm jEnds (mKix tab_FORMS (mVar 1)) (aCons (mVal (.str ("r" : Str))) (aNil)))) (sRet (mLst (aCons (mOp oIxA (mVar 2) (mNeg (mVal (.int 1)))) (aNil)))) (sNext))
  (sRet (mLst (aNil)))))
theorem me_within : mi_within = m_within := by rfl
theorem d_within {P : Program} {w : World} {K : Fg} {mg : Str → Option Value} {base : Heap} {f : Addr} {cdv : Value} {A : Around} {outer : List Env} {s : Shared} {H : Hp} {E : XK} {k : Nat} (g : Gb w K mg)
    (hr : Room k (A.deeper (envOfC "within" (defScope s_within) s.heap.objs.size f cdv))) (hgu : A.guards = some []) :
    DSs (cxOf CX0 P w K mg base N_within "within" (defScope s_within) f cdv A outer s H E).nox (defBody s_within) (m_within) :=
  have nd := sc_within.nd
  have h : DSs (cxOf CX0 P w K mg base N_within "within" (defScope s_within) f cdv A outer s H E).nox (defBody s_within) (mi_within) :=
  (dss_cons (ds_asg (vs := [1, 2]) (dv 0) (dg_star (by rfl) (dgs_cons (dgn 1 nd) (dgs_star (dgn 2 nd) (dgs_nil)))))
  (dss_cons (ds_if (dtc (opd_eq (u64 hr)) (de_tix g.t_FORMS (by rfl) (dv 1)) (de_str)) (dss_one (ds_ret (de_callTy (calld_listU (by rfl)) (by rfl) g.b_list (by rfl) (da_cons (de_ixA (u1 hr) (dv 2) (de_int)) (da_nil))))) (dss_nil))
  (dss_cons (ds_if (dt_of (de_sm smd_endswith PySem.F.slot_str_endswith PySem.F.type_str_endswith (de_tix g.t_FORMS (by rfl) (dv 1)) (da_cons (de_str) (da_nil)))) (dss_one (ds_ret (de_lst (da_cons (de_ixA (u1 hr) (dv 2) (de_neg (de_int))) (da_nil))))) (dss_nil))
  (dss_one (ds_ret (de_lst (da_nil)))))))
  me_within ▸ h
def N_all_within : List Str := ["reader", "found", "part"]
theorem sc_all_within : FnScope N_all_within ["reader"] (defScope s_all_within) := ⟨rfl, rfl, rfl, by decide +kernel, rfl, by decide +kernel, by decide +kernel⟩
def m_all_within_0 (c_within : Ct) (c_all_within : Ct) : MS :=
  sExpr (mMeth 1 tExtend (aCons (mFnK c_all_within (pick [(false, 0)]) 1 0 (aCons (mVar 2) (aNil)) (aNil)) (aNil)))
def m_all_within_1 (c_within : Ct) (c_all_within : Ct) : MS :=
  sRet (mVar 1)
def m_all_within_2 (c_within : Ct) (c_all_within : Ct) : MS :=
  sSeq (sFor (iOf (mFnK c_within (pick [(false, 0)]) 1 0 (aCons (mVar 0) (aNil)) (aNil))) (gNm 2)
  (m_all_within_0 c_within c_all_within))
  (m_all_within_1 c_within c_all_within)
def m_all_within_3 (c_within : Ct) (c_all_within : Ct) : MS :=
  sSeq (sSet 1 (mLst (aCons (mVar 0) (aNil))))
  (m_all_within_2 c_within c_all_within)
def m_all_within (c_within : Ct) (c_all_within : Ct) : MS := m_all_within_3 c_within c_all_within
def mi_all_within (c_within : Ct) (c_all_within : Ct) : MS :=
  sSeq (sSet 1 (mLst (aCons (mVar 0) (aNil))))
  (sSeq (sFor (iOf (mFnK c_within (pick [(false, 0)]) 1 0 (aCons (mVar 0) (aNil)) (aNil))) (gNm 2)
  (sExpr (mMeth 1 tExtend (aCons (mFnK c_all_within (pick [(false, 0)]) 1 0 (aCons (mVar 2) (aNil)) (aNil)) (aNil)))))
  (sRet (mVar 1)))
theorem me_all_within (c_within : Ct) (c_all_within : Ct) : mi_all_within c_within c_all_within = m_all_within c_within c_all_within := by rfl
theorem d_all_within {P : Program} {w : World} {K : Fg} {mg : Str → Option Value} {base : Heap} {f : Addr} {cdv : Value} {A : Around} {outer : List Env} {s : Shared} {H : Hp} {E : XK} {k : Nat} {c_within c_all_within : Ct} (g : Gb w K mg)
    (h_within_1 : Def P w K mg base k "within" 1 [] (pick [(false, 0)]) c_within)
    (h_all_within_1 : Def P w K mg base k "all_within" 1 [] (pick [(false, 0)]) c_all_within)
    (hr : Room k (A.deeper (envOfC "all_within" (defScope s_all_within) s.heap.objs.size f cdv))) (hgu : A.guards = some []) :
    DSs (cxOf CX0 P w K mg base N_all_within "all_within" (defScope s_all_within) f cdv A outer s H E).nox (defBody s_all_within) (m_all_within c_within c_all_within) :=
  have nd := sc_all_within.nd
  have h : DSs (cxOf CX0 P w K mg base N_all_within "all_within" (defScope s_all_within) f cdv A outer s H E).nox (defBody s_all_within) (mi_all_within c_within c_all_within) :=
  (dss_cons (dst 1 nd (de_lst (da_cons (dv 0) (da_nil))))
  (dss_cons (ds_for (vs := [2]) PassesOwn.never (by rfl) (di_of (de_def h_within_1 hr hgu (by rfl) (da_cons (dv 0) (da_nil)))) (dgn 2 nd)
  (dss_one (ds_expr (de_meth (i := 1) met_extend PySem.F.slot_list_extend PySem.F.type_list_extend (by rfl) (by first | exact .inl rfl | exact .inr (.inl rfl) | exact .inr (.inr rfl)) (da_cons (de_def h_all_within_1 hr hgu (by rfl) (da_cons (dv 2) (da_nil))) (da_nil))))))
  (dss_one (ds_ret (dv 1)))))
  me_all_within c_within c_all_within ▸ h
def N_parts_of : List Str := ["book", "name", "reader", "part"]
theorem sc_parts_of : FnScope N_parts_of ["book"] (defScope s_parts_of) := ⟨rfl, rfl, rfl, by decide +kernel, rfl, by decide +kernel, by decide +kernel⟩
def m_parts_of_0 (c_all_within : Ct) : MS :=
  sRet (mLc2 [1, 2, 3] [3] (iOf (mVar 0)) (gTp 2 (gCs (gNm 1) (gCs (gNm 2) (gNl)))) (bYes) (iOf (mFnK c_all_within (pick [(false, 0)]) 1 0 (aCons (mVar 2) (aNil)) (aNil))) (gNm 3) (bYes) (mVar 3))
def m_parts_of (c_all_within : Ct) : MS := m_parts_of_0 c_all_within
def mi_parts_of (c_all_within : Ct) : MS :=
  sRet (mLc2 [1, 2, 3] [3] (iOf (mVar 0)) (gTp 2 (gCs (gNm 1) (gCs (gNm 2) (gNl)))) (bYes) (iOf (mFnK c_all_within (pick [(false, 0)]) 1 0 (aCons (mVar 2) (aNil)) (aNil))) (gNm 3) (bYes) (mVar 3))
theorem me_parts_of (c_all_within : Ct) : mi_parts_of c_all_within = m_parts_of c_all_within := by rfl
theorem d_parts_of {P : Program} {w : World} {K : Fg} {mg : Str → Option Value} {base : Heap} {f : Addr} {cdv : Value} {A : Around} {outer : List Env} {s : Shared} {H : Hp} {E : XK} {k : Nat} {c_all_within : Ct} (g : Gb w K mg)
    (h_all_within_1 : Def P w K mg base k "all_within" 1 [] (pick [(false, 0)]) c_all_within)
    (hr : Room k (A.deeper (envOfC "parts_of" (defScope s_parts_of) s.heap.objs.size f cdv))) (hgu : A.guards = some []) :
    DSs (cxOf CX0 P w K mg base N_parts_of "parts_of" (defScope s_parts_of) f cdv A outer s H E).nox (defBody s_parts_of) (m_parts_of c_all_within) :=
  have nd := sc_parts_of.nd
  have h : DSs (cxOf CX0 P w K mg base N_parts_of "parts_of" (defScope s_parts_of) f cdv A outer s H E).nox (defBody s_parts_of) (mi_parts_of c_all_within) :=
  (dss_one (ds_ret (de_lc2 (own := [(("name" : Str), 1), (("reader" : Str), 2), (("part" : Str), 3)]) (vs1 := [3]) (by rfl) nd (di_of (dv 0)) (blkOk_by (N := N_parts_of) (sc := defScope s_parts_of) (own := [(("name" : Str), 1), (("reader" : Str), 2), (("part" : Str), 3)]) (by decide +kernel)) (by decide) (fun _ _ _ _ _ => dg_tup (by rfl) (dgs_cons (dgn 1 nd) (dgs_cons (dgn 2 nd) (dgs_nil)))) (fun _ _ _ _ _ => dts_nil) (fun _ _ _ _ _ => di_of (de_def h_all_within_1 hr hgu (by rfl) (da_cons (dv 2) (da_nil)))) (fun _ _ _ _ _ => dgn 3 nd) (fun _ _ _ _ _ => dts_nil) (fun _ _ _ _ _ => dv 3))))
  me_parts_of c_all_within ▸ h
def N_numbers_of : List Str := ["book", "found", "many", "name", "reader"]
theorem sc_numbers_of : FnScope N_numbers_of ["book"] (defScope s_numbers_of) := ⟨rfl, rfl, rfl, by decide +kernel, rfl, by decide +kernel, by decide +kernel⟩
def m_numbers_of_0 (c_all_within : Ct) : MS :=
  sAug 2 pAdd (mCall cLen (aCons (mFnK c_all_within (pick [(false, 0)]) 1 0 (aCons (mVar 4) (aNil)) (aNil)) (aNil)))
def m_numbers_of_1 (c_all_within : Ct) : MS :=
  sSeq (sSel 1 (sDPutK 1 (mVar 2) (mVar 3)) (sPut 1 (mVar 2) (mVar 3)))
  (m_numbers_of_0 c_all_within)
def m_numbers_of_2 (c_all_within : Ct) : MS :=
  sRet (mVar 1)
def m_numbers_of_3 (c_all_within : Ct) : MS :=
  sSeq (sFor (iOf (mVar 0)) (gTp 2 (gCs (gNm 3) (gCs (gNm 4) (gNl))))
  (m_numbers_of_1 c_all_within))
  (m_numbers_of_2 c_all_within)
def m_numbers_of_4 (c_all_within : Ct) : MS :=
  sSeq (sSet 2 (mVal (.int 0)))
  (m_numbers_of_3 c_all_within)
def m_numbers_of_5 (c_all_within : Ct) : MS :=
  sSeq (sSet 1 (mDNew))
  (m_numbers_of_4 c_all_within)
def m_numbers_of (c_all_within : Ct) : MS := m_numbers_of_5 c_all_within
def mi_numbers_of (c_all_within : Ct) : MS :=
  sSeq (sSet 1 (mDNew))
  (sSeq (sSet 2 (mVal (.int 0)))
  (sSeq (sFor (iOf (mVar 0)) (gTp 2 (gCs (gNm 3) (gCs (gNm 4) (gNl))))
  (sSeq (sSel 1 (sDPutK 1 (mVar 2) (mVar 3)) (sPut 1 (mVar 2) (mVar 3)))
  (sAug 2 pAdd (mCall cLen (aCons (mFnK c_all_within (pick [(false, 0)]) 1 0 (aCons (mVar 4) (aNil)) (aNil)) (aNil))))))
  (sRet (mVar 1))))
theorem me_numbers_of (c_all_within : Ct) : mi_numbers_of c_all_within = m_numbers_of c_all_within := by rfl
theorem d_numbers_of {P : Program} {w : World} {K : Fg} {mg : Str → Option Value} {base : Heap} {f : Addr} {cdv : Value} {A : Around} {outer : List Env} {s : Shared} {H : Hp} {E : XK} {k : Nat} {c_all_within : Ct} (g : Gb w K mg)
    (h_all_within_1 : Def P w K mg base k "all_within" 1 [] (pick [(false, 0)]) c_all_within)
    (hr : Room k (A.deeper (envOfC "numbers_of" (defScope s_numbers_of) s.heap.objs.size f cdv))) (hgu : A.guards = some []) :
    DSs (cxOf CX0 P w K mg base N_numbers_of "numbers_of" (defScope s_numbers_of) f cdv A outer s H E).nox (defBody s_numbers_of) (m_numbers_of c_all_within) :=
  have nd := sc_numbers_of.nd
  have h : DSs (cxOf CX0 P w K mg base N_numbers_of "numbers_of" (defScope s_numbers_of) f cdv A outer s H E).nox (defBody s_numbers_of) (mi_numbers_of c_all_within) :=
  (dss_cons (dst 1 nd (de_dnew))
  (dss_cons (dst 2 nd (de_int))
  (dss_cons (ds_for (vs := [3, 4]) PassesOwn.never (by rfl) (di_of (dv 0)) (dg_tup (by rfl) (dgs_cons (dgn 3 nd) (dgs_cons (dgn 4 nd) (dgs_nil))))
  (dss_cons (ds_sel (ds_dput (u1 hr) (i := 1) (by rfl) (by first | exact .inl rfl | exact .inr (.inl rfl) | exact .inr (.inr rfl)) (dv 2) (dv 3)) (ds_put (i := 1) (by rfl) (by first | exact .inl rfl | exact .inr (.inl rfl) | exact .inr (.inr rfl)) (dv 2) (dv 3)))
  (dss_one (ds_aug (i := 2) nd (by rfl) (by first | exact .inl rfl | exact .inr rfl) ipd_add (de_callB calld_len (by rfl) g.b_len (by rfl) (da_cons (de_def h_all_within_1 hr hgu (by rfl) (da_cons (dv 4) (da_nil))) (da_nil)))))))
  (dss_one (ds_ret (dv 1))))))
  me_numbers_of c_all_within ▸ h
def N_part_of : List Str := ["book", "name", "numbers"]
theorem sc_part_of : FnScope N_part_of ["book", "name"] (defScope s_part_of) := ⟨rfl, rfl, rfl, by decide +kernel, rfl, by decide +kernel, by decide +kernel⟩
def m_part_of_0 (c_numbers_of : Ct) : MS :=
  sRet (mOp oIxA (mVar 2) (mVar 1))
def m_part_of_1 (c_numbers_of : Ct) : MS :=
  sSeq (sIf (bOr (bNot (mTru (mIsI "str" (mVar 1)))) (tSel 2 (mTest (mDIn true 2 (mVar 1))) (mTest (mOp oNotIn (mVar 1) (mVar 2))))) (sNo) (sNext))
  (m_part_of_0 c_numbers_of)
def m_part_of_2 (c_numbers_of : Ct) : MS :=
  sSeq (sIf (mTest (mOp oIs (mVar 1) (mVal .none))) (sRet (mVal (.int 0))) (sNext))
  (m_part_of_1 c_numbers_of)
def m_part_of_3 (c_numbers_of : Ct) : MS :=
  sSeq (sSet 2 (mFnK c_numbers_of (pick [(false, 0)]) 1 0 (aCons (mVar 0) (aNil)) (aNil)))
  (m_part_of_2 c_numbers_of)
def m_part_of (c_numbers_of : Ct) : MS := m_part_of_3 c_numbers_of
def mi_part_of (c_numbers_of : Ct) : MS :=
  sSeq (sSet 2 (mFnK c_numbers_of (pick [(false, 0)]) 1 0 (aCons (mVar 0) (aNil)) (aNil)))
  (sSeq (sIf (mTest (mOp oIs (mVar 1) (mVal .none))) (sRet (mVal (.int 0))) (sNext))
  (sSeq (sIf (bOr (bNot (mTru (mIsI "str" (mVar 1)))) (tSel 2 (mTest (mDIn true 2 (mVar 1))) (mTest (mOp oNotIn (mVar 1) (mVar 2))))) (sNo) (sNext))
  (sRet (mOp oIxA (mVar 2) (mVar 1)))))
theorem me_part_of (c_numbers_of : Ct) : mi_part_of c_numbers_of = m_part_of c_numbers_of := by rfl
theorem d_part_of {P : Program} {w : World} {K : Fg} {mg : Str → Option Value} {base : Heap} {f : Addr} {cdv : Value} {A : Around} {outer : List Env} {s : Shared} {H : Hp} {E : XK} {k : Nat} {c_numbers_of : Ct} (g : Gb w K mg)
    (h_numbers_of_1 : Def P w K mg base k "numbers_of" 1 [] (pick [(false, 0)]) c_numbers_of)
    (hr : Room k (A.deeper (envOfC "part_of" (defScope s_part_of) s.heap.objs.size f cdv))) (hgu : A.guards = some []) :
    DSs (cxOf CX0 P w K mg base N_part_of "part_of" (defScope s_part_of) f cdv A outer s H E).nox (defBody s_part_of) (m_part_of c_numbers_of) :=
  have nd := sc_part_of.nd
  have h : DSs (cxOf CX0 P w K mg base N_part_of "part_of" (defScope s_part_of) f cdv A outer s H E).nox (defBody s_part_of) (mi_part_of c_numbers_of) :=
  (dss_cons (dst 2 nd (de_def h_numbers_of_1 hr hgu (by rfl) (da_cons (dv 0) (da_nil))))
  (dss_cons (ds_if (dtc opd_is (dv 1) (de_non)) (dss_one (ds_ret (de_int))) (dss_nil))
  (dss_cons (ds_if (dt_w (dw_or (dt_not (dt_of (de_isinst (T := "str") kit_str (by rfl) g.b_isinstance (by rfl) (by rfl) g.b_str (by rfl) (dv 1)))) (dw_or1 (dt_sel (dt_dnotin (u1 hr) (i := 2) (by rfl) (by first | exact .inl rfl | exact .inr (.inl rfl) | exact .inr (.inr rfl)) (dv 1)) (dt_cmp (opd_notin (u65 hr)) (dv 1) (dv 2) (by rfl)))))) (dss_one (ds_no)) (dss_nil))
  (dss_one (ds_ret (de_ixA (u1 hr) (dv 2) (dv 1)))))))
  me_part_of c_numbers_of ▸ h
def mx_part_of (c_numbers_of : Ct) : MX :=
  xThen (sSet 2 (mFnK c_numbers_of (pick [(false, 0)]) 1 0 (aCons (mVar 0) (aNil)) (aNil))) (xThen (sIf (mTest (mOp oIs (mVar 1) (mVal .none))) (sRet (mVal (.int 0))) (sNext)) (xIf (bOr (bNot (mTru (mIsI "str" (mVar 1)))) (tSel 2 (mTest (mDIn true 2 (mVar 1))) (mTest (mOp oNotIn (mVar 1) (mVar 2))))) (xRaise1 "Unknown" "name" (mVar 1)) (xNo)))
theorem x_part_of {P : Program} {w : World} {K : Fg} {mg : Str → Option Value} {base : Heap} {f : Addr} {cdv : Value} {A : Around} {outer : List Env} {s : Shared} {H : Hp} {E : XK} {k : Nat} {c_numbers_of : Ct} (g : Gb w K mg)
    (h_numbers_of_1 : Def P w K mg base k "numbers_of" 1 [] (pick [(false, 0)]) c_numbers_of)
    (k_Unknown : XMk1 P w K mg base "Unknown" "name")
    (hr : Room k (A.deeper (envOfC "part_of" (defScope s_part_of) s.heap.objs.size f cdv))) (hgu : A.guards = some []) (h2 : 2 ≤ k) :
    SsX (cxOf (L2.CX P w) P w K mg base N_part_of "part_of" (defScope s_part_of) f cdv A outer s H E) (defBody s_part_of) (mx_part_of c_numbers_of) :=
  have nd := sc_part_of.nd
  ssx_then (dst 2 nd (de_def h_numbers_of_1 hr hgu (by rfl) (da_cons (dv 0) (da_nil)))) (ssx_then (ds_if (dtc opd_is (dv 1) (de_non)) (dss_one (ds_ret (de_int))) (dss_nil)) (ssx_here (sx_if (dt_w (dw_or (dt_not (dt_of (de_isinst (T := "str") kit_str (by rfl) g.b_isinstance (by rfl) (by rfl) g.b_str (by rfl) (dv 1)))) (dw_or1 (dt_sel (dt_dnotin (u1 hr) (i := 2) (by rfl) (by first | exact .inl rfl | exact .inr (.inl rfl) | exact .inr (.inr rfl)) (dv 1)) (dt_cmp (opd_notin (u65 hr)) (dv 1) (dv 2) (by rfl)))))) (ssx_here (sx_raise1 rfl k_Unknown hr h2 (by rfl) (dv 1))) (ssx_no))))
def N_is_free : List Str := ["book", "part"]
theorem sc_is_free : FnScope N_is_free ["book"] (defScope s_is_free) := ⟨rfl, rfl, rfl, by decide +kernel, rfl, by decide +kernel, by decide +kernel⟩
def m_is_free_0 (c_parts_of : Ct) : MS :=
  sRet (mOp oNotIn (mVal (.str ("again" : Str))) (mLc [1] (iOf (mFnK c_parts_of (pick [(false, 0)]) 1 0 (aCons (mVar 0) (aNil)) (aNil))) (gNm 1) (bYes) (mOp oIxA (mVar 1) (mVal (.int 0)))))
def m_is_free (c_parts_of : Ct) : MS := m_is_free_0 c_parts_of
def mi_is_free (c_parts_of : Ct) : MS :=
  sRet (mOp oNotIn (mVal (.str ("again" : Str))) (mLc [1] (iOf (mFnK c_parts_of (pick [(false, 0)]) 1 0 (aCons (mVar 0) (aNil)) (aNil))) (gNm 1) (bYes) (mOp oIxA (mVar 1) (mVal (.int 0)))))
theorem me_is_free (c_parts_of : Ct) : mi_is_free c_parts_of = m_is_free c_parts_of := by rfl
theorem d_is_free {P : Program} {w : World} {K : Fg} {mg : Str → Option Value} {base : Heap} {f : Addr} {cdv : Value} {A : Around} {outer : List Env} {s : Shared} {H : Hp} {E : XK} {k : Nat} {c_parts_of : Ct} (g : Gb w K mg)
    (h_parts_of_1 : Def P w K mg base k "parts_of" 1 [] (pick [(false, 0)]) c_parts_of)
    (hr : Room k (A.deeper (envOfC "is_free" (defScope s_is_free) s.heap.objs.size f cdv))) (hgu : A.guards = some []) :
    DSs (cxOf CX0 P w K mg base N_is_free "is_free" (defScope s_is_free) f cdv A outer s H E).nox (defBody s_is_free) (m_is_free c_parts_of) :=
  have nd := sc_is_free.nd
  have h : DSs (cxOf CX0 P w K mg base N_is_free "is_free" (defScope s_is_free) f cdv A outer s H E).nox (defBody s_is_free) (mi_is_free c_parts_of) :=
  (dss_one (ds_ret (dec (opd_notin (u65 hr)) (de_con g.c_AGAIN (by rfl)) (de_lc (own := [(("part" : Str), 1)]) (by rfl) nd (di_of (de_def h_parts_of_1 hr hgu (by rfl) (da_cons (dv 0) (da_nil)))) (blkOk_by (N := N_is_free) (sc := defScope s_is_free) (own := [(("part" : Str), 1)]) (by decide +kernel)) (fun _ _ _ _ _ => dgn 1 nd) (fun _ _ _ _ _ => dts_nil) (fun _ _ _ _ _ => de_ixA (u1 hr) (dv 1) (de_int))))))
  me_is_free c_parts_of ▸ h
def N__law_draw : List Str := ["_law_pen", "_law_many", "_law_digit", "_law_at", "_law_cell", "_law_mixed"]
theorem sc__law_draw : FnScope N__law_draw ["_law_pen", "_law_many"] (defScope s__law_draw) := ⟨rfl, rfl, rfl, by decide +kernel, rfl, by decide +kernel, by decide +kernel⟩
def m__law_draw_0 : MS :=
  sRet (mVar 2)
def m__law_draw_1 : MS :=
  sSeq (sPut 0 (mOp oDiv (mOp oIxA (mVar 0) (mVal (.int 2))) (mVar 1)) (mVal (.int 2)))
  (m__law_draw_0)
def m__law_draw_2 : MS :=
  sSeq (sSet 2 (mOp oMod (mOp oIxA (mVar 0) (mVal (.int 2))) (mVar 1)))
  (m__law_draw_1)
def m__law_draw_3 : MS :=
  sSet 4 (mOp oIxA (mOp oIxA (mVar 0) (mVal (.int 0))) (mOp oMod (mVar 3) (mCall cLen (aCons (mOp oIxA (mVar 0) (mVal (.int 0))) (aNil)))))
def m__law_draw_4 : MS :=
  sRet (mOp oMod (mCall cAbs (aCons (mVar 4) (aNil))) (mVar 1))
def m__law_draw_5 : MS :=
  sSeq (sPut 0 (mOp oDiv (mCall cAbs (aCons (mVar 4) (aNil))) (mVar 1)) (mVal (.int 2)))
  (m__law_draw_4)
def m__law_draw_6 : MS :=
  sRet (mOp oMod (mOp oDiv (mVar 5) (mVal (.int 32))) (mVar 1))
def m__law_draw_7 : MS :=
  sSeq (sSet 5 (mOp oMod (mOp oPow (mOp oAdd (mOp oMul (mVar 5) (mOp oAdd (mOp oMul (mVal (.int 5)) (mVar 3)) (mVal (.int 2)))) (mVal (.int 80039))) (mVal (.int 3))) (mVal (.int 2147483587))))
  (m__law_draw_6)
def m__law_draw_8 : MS :=
  sSeq (sSet 5 (mOp oMod (mOp oPow (mOp oAdd (mOp oAdd (mOp oAdd (mOp oMod (mVar 4) (mVal (.int 2147483563))) (mOp oMul (mOp oMul (mVal (.int 50021)) (mVar 3)) (mVar 3))) (mOp oMul (mVal (.int 70009)) (mVar 3))) (mVal (.int 37))) (mVal (.int 3))) (mVal (.int 2147483647))))
  (m__law_draw_7)
def m__law_draw_9 : MS :=
  sSeq (sIf (bAnd (mTest (mOp oLt (mVar 3) (mCall cLen (aCons (mOp oIxA (mVar 0) (mVal (.int 0))) (aNil))))) (mTest (mOp oGe (mCall cAbs (aCons (mVar 4) (aNil))) (mOp oPow (mVal (.int 10)) (mVal (.int 18)))))) (m__law_draw_5) (sNext))
  (m__law_draw_8)
def m__law_draw_10 : MS :=
  sSeq (sIf (mTest (mOp oNeU (mOp oIxA (mVar 0) (mVal (.int 0))) (mLst (aNil)))) (m__law_draw_3) (sNext))
  (m__law_draw_9)
def m__law_draw_11 : MS :=
  sSeq (sSet 4 (mOp oAdd (mOp oMul (mVal (.int 80021)) (mVar 3)) (mVal (.int 57))))
  (m__law_draw_10)
def m__law_draw_12 : MS :=
  sSeq (sPut 0 (mOp oAdd (mVar 3) (mVal (.int 1))) (mVal (.int 1)))
  (m__law_draw_11)
def m__law_draw_13 : MS :=
  sSeq (sSet 3 (mOp oIxA (mVar 0) (mVal (.int 1))))
  (m__law_draw_12)
def m__law_draw_14 : MS :=
  sSeq (sIf (mTest (mOp oGt (mOp oIxA (mVar 0) (mVal (.int 2))) (mVal (.int 0)))) (m__law_draw_2) (sNext))
  (m__law_draw_13)
def m__law_draw : MS := m__law_draw_14
def mi__law_draw : MS :=
  sSeq (sIf (mTest (mOp oGt (mOp oIxA (mVar 0) (mVal (.int 2))) (mVal (.int 0)))) (sSeq (sSet 2 (mOp oMod (mOp oIxA (mVar 0) (mVal (.int 2))) (mVar 1)))
  (sSeq (sPut 0 (mOp oDiv (mOp oIxA (mVar 0) (mVal (.int 2))) (mVar 1)) (mVal (.int 2)))
  (sRet (mVar 2)))) (sNext))
  (sSeq (sSet 3 (mOp oIxA (mVar 0) (mVal (.int 1))))
  (sSeq (sPut 0 (mOp oAdd (mVar 3) (mVal (.int 1))) (mVal (.int 1)))
  (sSeq (sSet 4 (mOp oAdd (mOp oMul (mVal (.int 80021)) (mVar 3)) (mVal (.int 57))))
  (sSeq (sIf (mTest (mOp oNeU (mOp oIxA (mVar 0) (mVal (.int 0))) (mLst (aNil)))) (sSet 4 (mOp oIxA (mOp oIxA (mVar 0) (mVal (.int 0))) (mOp oMod (mVar 3) (mCall cLen (aCons (mOp oIxA (mVar 0) (mVal (.int 0))) (aNil)))))) (sNext))
  (sSeq (sIf (bAnd (mTest (mOp oLt (mVar 3) (mCall cLen (aCons (mOp oIxA (mVar 0) (mVal (.int 0))) (aNil))))) (mTest (mOp oGe (mCall cAbs (aCons (mVar 4) (aNil))) (mOp oPow (mVal (.int 10)) (mVal (.int 18)))))) (sSeq (sPut 0 (mOp oDiv (mCall cAbs (aCons (mVar 4) (aNil))) (mVar 1)) (mVal (.int 2)))
  (sRet (mOp oMod (mCall cAbs (aCons (mVar 4) (aNil))) (mVar 1)))) (sNext))
  (sSeq (sSet 5 (mOp oMod (mOp oPow (mOp oAdd (mOp oAdd (mOp oAdd (mOp oMod (mVar 4) (mVal (.int 2147483563))) (mOp oMul (mOp oMul (mVal (.int 50021)) (mVar 3)) (mVar 3))) (mOp oMul (mVal (.int 70009)) (mVar 3))) (mVal (.int 37))) (mVal (.int 3))) (mVal (.int 2147483647))))
  (sSeq (sSet 5 (mOp oMod (mOp oPow (mOp oAdd (mOp oMul (mVar 5) (mOp oAdd (mOp oMul (mVal (.int 5)) (mVar 3)) (mVal (.int 2)))) (mVal (.int 80039))) (mVal (.int 3))) (mVal (.int 2147483587))))
  (sRet (mOp oMod (mOp oDiv (mVar 5) (mVal (.int 32))) (mVar 1))))))))))
theorem me__law_draw : mi__law_draw = m__law_draw := by rfl
theorem d__law_draw {P : Program} {w : World} {K : Fg} {mg : Str → Option Value} {base : Heap} {f : Addr} {cdv : Value} {A : Around} {outer : List Env} {s : Shared} {H : Hp} {E : XK} {k : Nat} (g : Gb w K mg)
    (hr : Room k (A.deeper (envOfC "_law_draw" (defScope s__law_draw) s.heap.objs.size f cdv))) (hgu : A.guards = some []) :
    DSs (cxOf CX0 P w K mg base N__law_draw "_law_draw" (defScope s__law_draw) f cdv A outer s H E).nox (defBody s__law_draw) (m__law_draw) :=
  have nd := sc__law_draw.nd
  have h : DSs (cxOf CX0 P w K mg base N__law_draw "_law_draw" (defScope s__law_draw) f cdv A outer s H E).nox (defBody s__law_draw) (mi__law_draw) :=
  (dss_cons (ds_if (dtc opd_gt (de_ixA (u1 hr) (dv 0) (de_int)) (de_int)) (dss_cons (dst 2 nd (de_op opd_mod (de_ixA (u1 hr) (dv 0) (de_int)) (dv 1)))
  (dss_cons (ds_put (i := 0) (by rfl) (by first | exact .inl rfl | exact .inr (.inl rfl) | exact .inr (.inr rfl)) (de_op opd_div (de_ixA (u1 hr) (dv 0) (de_int)) (dv 1)) (de_int))
  (dss_one (ds_ret (dv 2))))) (dss_nil))
  (dss_cons (dst 3 nd (de_ixA (u1 hr) (dv 0) (de_int)))
  (dss_cons (ds_put (i := 0) (by rfl) (by first | exact .inl rfl | exact .inr (.inl rfl) | exact .inr (.inr rfl)) (de_op opd_add (dv 3) (de_int)) (de_int))
  (dss_cons (dst 4 nd (de_op opd_add (de_op opd_mul (de_int) (dv 3)) (de_int)))
  (dss_cons (ds_if (dtc (opd_neU (u64 hr)) (de_ixA (u1 hr) (dv 0) (de_int)) (de_lst (da_nil))) (dss_one (dst 4 nd (de_ixA (u1 hr) (de_ixA (u1 hr) (dv 0) (de_int)) (de_op opd_mod (dv 3) (de_callB calld_len (by rfl) g.b_len (by rfl) (da_cons (de_ixA (u1 hr) (dv 0) (de_int)) (da_nil))))))) (dss_nil))
  (dss_cons (ds_if (dt_w (dw_and (dtc opd_lt (dv 3) (de_callB calld_len (by rfl) g.b_len (by rfl) (da_cons (de_ixA (u1 hr) (dv 0) (de_int)) (da_nil)))) (dw_and1 (dtc opd_ge (de_callB calld_abs (by rfl) g.b_abs (by rfl) (da_cons (dv 4) (da_nil))) (de_op opd_pow (de_int) (de_int)))))) (dss_cons (ds_put (i := 0) (by rfl) (by first | exact .inl rfl | exact .inr (.inl rfl) | exact .inr (.inr rfl)) (de_op opd_div (de_callB calld_abs (by rfl) g.b_abs (by rfl) (da_cons (dv 4) (da_nil))) (dv 1)) (de_int))
  (dss_one (ds_ret (de_op opd_mod (de_callB calld_abs (by rfl) g.b_abs (by rfl) (da_cons (dv 4) (da_nil))) (dv 1))))) (dss_nil))
  (dss_cons (dst 5 nd (de_op opd_mod (de_op opd_pow (de_op opd_add (de_op opd_add (de_op opd_add (de_op opd_mod (dv 4) (de_int)) (de_op opd_mul (de_op opd_mul (de_int) (dv 3)) (dv 3))) (de_op opd_mul (de_int) (dv 3))) (de_int)) (de_int)) (de_int)))
  (dss_cons (dst 5 nd (de_op opd_mod (de_op opd_pow (de_op opd_add (de_op opd_mul (dv 5) (de_op opd_add (de_op opd_mul (de_int) (dv 3)) (de_int))) (de_int)) (de_int)) (de_int)))
  (dss_one (ds_ret (de_op opd_mod (de_op opd_div (dv 5) (de_int)) (dv 1))))))))))))
  me__law_draw ▸ h
def N__law_all : List Str := ["_law_found"]
theorem sc__law_all : FnScope N__law_all [] (defScope s__law_all) := ⟨rfl, rfl, rfl, by decide +kernel, rfl, by decide +kernel, by decide +kernel⟩
def m__law_all_0 : MS :=
  sRet (mOp oAdd (mVar 0) (mVal (.str ("[\\]^_`abcdefghijklmnopqrstuvwxyz{|}~" : Str))))
def m__law_all_1 : MS :=
  sSeq (sSet 0 (mVal (.str ("\n !\"#$&'()*+,-./0123456789:;<=>?@ABCDEFGHIJKLMNOPQRSTUVWXYZ" : Str))))
  (m__law_all_0)
def m__law_all : MS := m__law_all_1
def mi__law_all : MS :=
  sSeq (sSet 0 (mVal (.str ("\n !\"#$&'()*+,-./0123456789:;<=>?@ABCDEFGHIJKLMNOPQRSTUVWXYZ" : Str))))
  (sRet (mOp oAdd (mVar 0) (mVal (.str ("[\\]^_`abcdefghijklmnopqrstuvwxyz{|}~" : Str)))))
theorem me__law_all : mi__law_all = m__law_all := by rfl
theorem d__law_all {P : Program} {w : World} {K : Fg} {mg : Str → Option Value} {base : Heap} {f : Addr} {cdv : Value} {A : Around} {outer : List Env} {s : Shared} {H : Hp} {E : XK} {k : Nat} (g : Gb w K mg)
    (hr : Room k (A.deeper (envOfC "_law_all" (defScope s__law_all) s.heap.objs.size f cdv))) (hgu : A.guards = some []) :
    DSs (cxOf CX0 P w K mg base N__law_all "_law_all" (defScope s__law_all) f cdv A outer s H E).nox (defBody s__law_all) (m__law_all) :=
  have nd := sc__law_all.nd
  have h : DSs (cxOf CX0 P w K mg base N__law_all "_law_all" (defScope s__law_all) f cdv A outer s H E).nox (defBody s__law_all) (mi__law_all) :=
  (dss_cons (dst 0 nd (de_str))
  (dss_one (ds_ret (de_op opd_add (dv 0) (de_str)))))
  me__law_all ▸ h
def N__law_signs : List Str := ["_law_pen", "_law_every", "_law_way", "_law_at", "_law_some", "_law_sign"]
theorem sc__law_signs : FnScope N__law_signs ["_law_pen"] (defScope s__law_signs) := ⟨rfl, rfl, rfl, by decide +kernel, rfl, by decide +kernel, by decide +kernel⟩
def m__law_signs_0 (c__law_all : Ct) (c__law_draw : Ct) : MS :=
  sRet (mOp oIxA (mLst (aCons (mVal (.str ("a" : Str))) (aCons (mVal (.str ("ab" : Str))) (aCons (mVal (.str ("b" : Str))) (aCons (mVal (.str ("abc" : Str))) (aCons (mVal (.str ("c" : Str))) (aCons (mVal (.str (" " : Str))) (aCons (mVal (.str ("\n" : Str))) (aCons (mVal (.str ("\n a" : Str))) (aNil)))))))))) (mFnK c__law_draw (pick [(false, 0), (false, 1)]) 2 0 (aCons (mVar 0) (aCons (mVal (.int 8)) (aNil))) (aNil)))
def m__law_signs_1 (c__law_all : Ct) (c__law_draw : Ct) : MS :=
  sRet (mSl (mVar 1) (oSome (mVar 3)) (oSome (mOp oAdd (mOp oAdd (mVar 3) (mVal (.int 1))) (mFnK c__law_draw (pick [(false, 0), (false, 1)]) 2 0 (aCons (mVar 0) (aCons (mVal (.int 94)) (aNil))) (aNil)))))
def m__law_signs_2 (c__law_all : Ct) (c__law_draw : Ct) : MS :=
  sSeq (sSet 3 (mFnK c__law_draw (pick [(false, 0), (false, 1)]) 2 0 (aCons (mVar 0) (aCons (mVal (.int 95)) (aNil))) (aNil)))
  (m__law_signs_1 c__law_all c__law_draw)
def m__law_signs_3 (c__law_all : Ct) (c__law_draw : Ct) : MS :=
  sRet (mOp oIxA (mLst (aCons (mSl (mVar 4) (oNone) (oSome (mVal (.int 94)))) (aCons (mVal (.str ("]^" : Str))) (aNil)))) (mCall cInt (aCons (mOp oEq (mVar 4) (mVal (.str ("" : Str)))) (aNil))))
def m__law_signs_4 (c__law_all : Ct) (c__law_draw : Ct) : MS :=
  sSeq (sSet 4 (mSm jJoin (mVal (.str ("" : Str))) (aCons (mLc [5] (iOf (mVar 1)) (gNm 5) (mTest (mOp oEq (mFnK c__law_draw (pick [(false, 0), (false, 1)]) 2 0 (aCons (mVar 0) (aCons (mVal (.int 8)) (aNil))) (aNil)) (mVal (.int 0)))) (mVar 5)) (aNil))))
  (m__law_signs_3 c__law_all c__law_draw)
def m__law_signs_5 (c__law_all : Ct) (c__law_draw : Ct) : MS :=
  sSeq (sIf (mTest (mOp oEq (mVar 2) (mVal (.int 2)))) (m__law_signs_2 c__law_all c__law_draw) (sNext))
  (m__law_signs_4 c__law_all c__law_draw)
def m__law_signs_6 (c__law_all : Ct) (c__law_draw : Ct) : MS :=
  sSeq (sIf (mTest (mOp oLt (mVar 2) (mVal (.int 2)))) (m__law_signs_0 c__law_all c__law_draw) (sNext))
  (m__law_signs_5 c__law_all c__law_draw)
def m__law_signs_7 (c__law_all : Ct) (c__law_draw : Ct) : MS :=
  sSeq (sSet 2 (mFnK c__law_draw (pick [(false, 0), (false, 1)]) 2 0 (aCons (mVar 0) (aCons (mVal (.int 4)) (aNil))) (aNil)))
  (m__law_signs_6 c__law_all c__law_draw)
def m__law_signs_8 (c__law_all : Ct) (c__law_draw : Ct) : MS :=
  sSeq (sSet 1 (mFnK c__law_all (pick []) 0 0 (aNil) (aNil)))
  (m__law_signs_7 c__law_all c__law_draw)
def m__law_signs (c__law_all : Ct) (c__law_draw : Ct) : MS := m__law_signs_8 c__law_all c__law_draw
def mi__law_signs (c__law_all : Ct) (c__law_draw : Ct) : MS :=
  sSeq (sSet 1 (mFnK c__law_all (pick []) 0 0 (aNil) (aNil)))
  (sSeq (sSet 2 (mFnK c__law_draw (pick [(false, 0), (false, 1)]) 2 0 (aCons (mVar 0) (aCons (mVal (.int 4)) (aNil))) (aNil)))
  (sSeq (sIf (mTest (mOp oLt (mVar 2) (mVal (.int 2)))) (sRet (mOp oIxA (mLst (aCons (mVal (.str ("a" : Str))) (aCons (mVal (.str ("ab" : Str))) (aCons (mVal (.str ("b" : Str))) (aCons (mVal (.str ("abc" : Str))) (aCons (mVal (.str ("c" : Str))) (aCons (mVal (.str (" " : Str))) (aCons (mVal (.str ("\n" : Str))) (aCons (mVal (.str ("\n a" : Str))) (aNil)))))))))) (mFnK c__law_draw (pick [(false, 0), (false, 1)]) 2 0 (aCons (mVar 0) (aCons (mVal (.int 8)) (aNil))) (aNil)))) (sNext))
  (sSeq (sIf (mTest (mOp oEq (mVar 2) (mVal (.int 2)))) (sSeq (sSet 3 (mFnK c__law_draw (pick [(false, 0), (false, 1)]) 2 0 (aCons (mVar 0) (aCons (mVal (.int 95)) (aNil))) (aNil)))
  (sRet (mSl (mVar 1) (oSome (mVar 3)) (oSome (mOp oAdd (mOp oAdd (mVar 3) (mVal (.int 1))) (mFnK c__law_draw (pick [(false, 0), (false, 1)]) 2 0 (aCons (mVar 0) (aCons (mVal (.int 94)) (aNil))) (aNil))))))) (sNext))
  (sSeq (sSet 4 (mSm jJoin (mVal (.str ("" : Str))) (aCons (mLc [5] (iOf (mVar 1)) (gNm 5) (mTest (mOp oEq (mFnK c__law_draw (pick [(false, 0), (false, 1)]) 2 0 (aCons (mVar 0) (aCons (mVal (.int 8)) (aNil))) (aNil)) (mVal (.int 0)))) (mVar 5)) (aNil))))
  (sRet (mOp oIxA (mLst (aCons (mSl (mVar 4) (oNone) (oSome (mVal (.int 94)))) (aCons (mVal (.str ("]^" : Str))) (aNil)))) (mCall cInt (aCons (mOp oEq (mVar 4) (mVal (.str ("" : Str)))) (aNil)))))))))
theorem me__law_signs (c__law_all : Ct) (c__law_draw : Ct) : mi__law_signs c__law_all c__law_draw = m__law_signs c__law_all c__law_draw := by rfl
theorem d__law_signs {P : Program} {w : World} {K : Fg} {mg : Str → Option Value} {base : Heap} {f : Addr} {cdv : Value} {A : Around} {outer : List Env} {s : Shared} {H : Hp} {E : XK} {k : Nat} {c__law_all c__law_draw : Ct} (g : Gb w K mg)
    (h__law_all_0 : Def P w K mg base k "_law_all" 0 [] (pick []) c__law_all)
    (h__law_draw_2 : Def P w K mg base k "_law_draw" 2 [] (pick [(false, 0), (false, 1)]) c__law_draw)
    (hr : Room k (A.deeper (envOfC "_law_signs" (defScope s__law_signs) s.heap.objs.size f cdv))) (hgu : A.guards = some []) :
    DSs (cxOf CX0 P w K mg base N__law_signs "_law_signs" (defScope s__law_signs) f cdv A outer s H E).nox (defBody s__law_signs) (m__law_signs c__law_all c__law_draw) :=
  have nd := sc__law_signs.nd
  have h : DSs (cxOf CX0 P w K mg base N__law_signs "_law_signs" (defScope s__law_signs) f cdv A outer s H E).nox (defBody s__law_signs) (mi__law_signs c__law_all c__law_draw) :=
  (dss_cons (dst 1 nd (de_def0 h__law_all_0 hr hgu (by rfl)))
  (dss_cons (dst 2 nd (de_def h__law_draw_2 hr hgu (by rfl) (da_cons (dv 0) (da_cons (de_int) (da_nil)))))
  (dss_cons (ds_if (dtc opd_lt (dv 2) (de_int)) (dss_one (ds_ret (de_ixA (u1 hr) (de_lst (da_cons (de_str) (da_cons (de_str) (da_cons (de_str) (da_cons (de_str) (da_cons (de_str) (da_cons (de_str) (da_cons (de_str) (da_cons (de_str) (da_nil)))))))))) (de_def h__law_draw_2 hr hgu (by rfl) (da_cons (dv 0) (da_cons (de_int) (da_nil))))))) (dss_nil))
  (dss_cons (ds_if (dtc (opd_eq (u64 hr)) (dv 2) (de_int)) (dss_cons (dst 3 nd (de_def h__law_draw_2 hr hgu (by rfl) (da_cons (dv 0) (da_cons (de_int) (da_nil)))))
  (dss_one (ds_ret (de_slice (dv 1) (do_some (dv 3)) (do_some (de_op opd_add (de_op opd_add (dv 3) (de_int)) (de_def h__law_draw_2 hr hgu (by rfl) (da_cons (dv 0) (da_cons (de_int) (da_nil)))))))))) (dss_nil))
  (dss_cons (dst 4 nd (de_sm smd_join PySem.F.slot_str_join PySem.F.type_str_join (de_str) (da_cons (de_lc (own := [(("_law_sign" : Str), 5)]) (by rfl) nd (di_of (dv 1)) (blkOk_by (N := N__law_signs) (sc := defScope s__law_signs) (own := [(("_law_sign" : Str), 5)]) (by decide +kernel)) (fun _ _ _ _ _ => dgn 5 nd) (fun _ _ _ _ _ => dts_one (dtc (opd_eq (u64 hr)) (de_def h__law_draw_2 hr hgu (by rfl) (da_cons (dv 0) (da_cons (de_int) (da_nil)))) (de_int))) (fun _ _ _ _ _ => dv 5)) (da_nil))))
  (dss_one (ds_ret (de_ixA (u1 hr) (de_lst (da_cons (de_slice (dv 4) (do_none) (do_some (de_int))) (da_cons (de_str) (da_nil)))) (de_callTy calld_int (by rfl) g.b_int (by rfl) (da_cons (dec (opd_eq (u64 hr)) (dv 4) (de_str)) (da_nil)))))))))))
  me__law_signs c__law_all c__law_draw ▸ h
def N__law_names : List Str := ["_law_pen", "_law_many", "_law_letters", "_law_base", "_law_k", "_law_spot", "_law_turn", "_law_leap", "_law_found", "_law_words", "_law_word"]
theorem sc__law_names : FnScope N__law_names ["_law_pen", "_law_many"] (defScope s__law_names) := ⟨rfl, rfl, rfl, by decide +kernel, rfl, by decide +kernel, by decide +kernel⟩
def m__law_names_0 (c__law_draw : Ct) : MS :=
  sIf (mTest (mOp oNotIn (mVar 10) (mVar 8))) (sPut 8 (mVar 10) (mVar 4)) (sNext)
def m__law_names_1 (c__law_draw : Ct) : MS :=
  sSeq (sSet 10 (mOp oIxA (mVar 9) (mFnK c__law_draw (pick [(false, 0), (false, 1)]) 2 0 (aCons (mVar 0) (aCons (mVal (.int 10)) (aNil))) (aNil))))
  (m__law_names_0 c__law_draw)
def m__law_names_2 (c__law_draw : Ct) : MS :=
  sFor (iRange1 (mVar 1)) (gNm 4)
  (m__law_names_1 c__law_draw)
def m__law_names_3 (c__law_draw : Ct) : MS :=
  sRet (mVar 8)
def m__law_names_4 (c__law_draw : Ct) : MS :=
  sSeq (sIf (mTest (mOp oEq (mFnK c__law_draw (pick [(false, 0), (false, 1)]) 2 0 (aCons (mVar 0) (aCons (mVal (.int 4)) (aNil))) (aNil)) (mVal (.int 0)))) (m__law_names_2 c__law_draw) (sNext))
  (m__law_names_3 c__law_draw)
def m__law_names_5 (c__law_draw : Ct) : MS :=
  sSeq (sSet 9 (mLst (aCons (mVal (.str ("name" : Str))) (aCons (mVal (.str ("row" : Str))) (aCons (mVal (.str ("many" : Str))) (aCons (mVal (.str ("not" : Str))) (aCons (mVal (.str ("again" : Str))) (aCons (mVal (.str ("hold" : Str))) (aCons (mVal (.str ("text" : Str))) (aCons (mVal (.str ("drop" : Str))) (aCons (mVal (.str ("count" : Str))) (aCons (mVal (.str ("start" : Str))) (aNil)))))))))))))
  (m__law_names_4 c__law_draw)
def m__law_names_6 (c__law_draw : Ct) : MS :=
  sSeq (sSet 8 (mLc [4] (iRange1 (mVar 1)) (gNm 4) (bYes) (mOp oAdd (mOp oAdd (mSl (mVar 3) (oNone) (oSome (mVar 5))) (mOp oIxA (mVar 2) (mOp oMod (mOp oAdd (mVar 6) (mOp oMul (mVar 7) (mVar 4))) (mVal (.int 26))))) (mSl (mVar 3) (oSome (mVar 5)) (oNone)))))
  (m__law_names_5 c__law_draw)
def m__law_names_7 (c__law_draw : Ct) : MS :=
  sSeq (sSet 7 (mOp oIxA (mLst (aCons (mVal (.int 1)) (aCons (mVal (.int 3)) (aCons (mVal (.int 5)) (aCons (mVal (.int 7)) (aCons (mVal (.int 9)) (aCons (mVal (.int 11)) (aNil)))))))) (mFnK c__law_draw (pick [(false, 0), (false, 1)]) 2 0 (aCons (mVar 0) (aCons (mVal (.int 6)) (aNil))) (aNil))))
  (m__law_names_6 c__law_draw)
def m__law_names_8 (c__law_draw : Ct) : MS :=
  sSeq (sSet 6 (mFnK c__law_draw (pick [(false, 0), (false, 1)]) 2 0 (aCons (mVar 0) (aCons (mVal (.int 26)) (aNil))) (aNil)))
  (m__law_names_7 c__law_draw)
def m__law_names_9 (c__law_draw : Ct) : MS :=
  sSeq (sSet 5 (mFnK c__law_draw (pick [(false, 0), (false, 1)]) 2 0 (aCons (mVar 0) (aCons (mOp oAdd (mCall cLen (aCons (mVar 3) (aNil))) (mVal (.int 1))) (aNil))) (aNil)))
  (m__law_names_8 c__law_draw)
def m__law_names_10 (c__law_draw : Ct) : MS :=
  sSeq (sSet 3 (mSm jJoin (mVal (.str ("" : Str))) (aCons (mLc [4] (iRange1 (mOp oIxA (mLst (aCons (mVal (.int 0)) (aCons (mVal (.int 7)) (aCons (mFnK c__law_draw (pick [(false, 0), (false, 1)]) 2 0 (aCons (mVar 0) (aCons (mVal (.int 8)) (aNil))) (aNil)) (aNil))))) (mFnK c__law_draw (pick [(false, 0), (false, 1)]) 2 0 (aCons (mVar 0) (aCons (mVal (.int 3)) (aNil))) (aNil)))) (gNm 4) (bYes) (mOp oIxA (mVar 2) (mFnK c__law_draw (pick [(false, 0), (false, 1)]) 2 0 (aCons (mVar 0) (aCons (mVal (.int 26)) (aNil))) (aNil)))) (aNil))))
  (m__law_names_9 c__law_draw)
def m__law_names_11 (c__law_draw : Ct) : MS :=
  sSeq (sSet 2 (mVal (.str ("abcdefghijklmnopqrstuvwxyz" : Str))))
  (m__law_names_10 c__law_draw)
def m__law_names (c__law_draw : Ct) : MS := m__law_names_11 c__law_draw
def mi__law_names (c__law_draw : Ct) : MS :=
  sSeq (sSet 2 (mVal (.str ("abcdefghijklmnopqrstuvwxyz" : Str))))
  (sSeq (sSet 3 (mSm jJoin (mVal (.str ("" : Str))) (aCons (mLc [4] (iRange1 (mOp oIxA (mLst (aCons (mVal (.int 0)) (aCons (mVal (.int 7)) (aCons (mFnK c__law_draw (pick [(false, 0), (false, 1)]) 2 0 (aCons (mVar 0) (aCons (mVal (.int 8)) (aNil))) (aNil)) (aNil))))) (mFnK c__law_draw (pick [(false, 0), (false, 1)]) 2 0 (aCons (mVar 0) (aCons (mVal (.int 3)) (aNil))) (aNil)))) (gNm 4) (bYes) (mOp oIxA (mVar 2) (mFnK c__law_draw (pick [(false, 0), (false, 1)]) 2 0 (aCons (mVar 0) (aCons (mVal (.int 26)) (aNil))) (aNil)))) (aNil))))
  (sSeq (sSet 5 (mFnK c__law_draw (pick [(false, 0), (false, 1)]) 2 0 (aCons (mVar 0) (aCons (mOp oAdd (mCall cLen (aCons (mVar 3) (aNil))) (mVal (.int 1))) (aNil))) (aNil)))
  (sSeq (sSet 6 (mFnK c__law_draw (pick [(false, 0), (false, 1)]) 2 0 (aCons (mVar 0) (aCons (mVal (.int 26)) (aNil))) (aNil)))
  (sSeq (sSet 7 (mOp oIxA (mLst (aCons (mVal (.int 1)) (aCons (mVal (.int 3)) (aCons (mVal (.int 5)) (aCons (mVal (.int 7)) (aCons (mVal (.int 9)) (aCons (mVal (.int 11)) (aNil)))))))) (mFnK c__law_draw (pick [(false, 0), (false, 1)]) 2 0 (aCons (mVar 0) (aCons (mVal (.int 6)) (aNil))) (aNil))))
  (sSeq (sSet 8 (mLc [4] (iRange1 (mVar 1)) (gNm 4) (bYes) (mOp oAdd (mOp oAdd (mSl (mVar 3) (oNone) (oSome (mVar 5))) (mOp oIxA (mVar 2) (mOp oMod (mOp oAdd (mVar 6) (mOp oMul (mVar 7) (mVar 4))) (mVal (.int 26))))) (mSl (mVar 3) (oSome (mVar 5)) (oNone)))))
  (sSeq (sSet 9 (mLst (aCons (mVal (.str ("name" : Str))) (aCons (mVal (.str ("row" : Str))) (aCons (mVal (.str ("many" : Str))) (aCons (mVal (.str ("not" : Str))) (aCons (mVal (.str ("again" : Str))) (aCons (mVal (.str ("hold" : Str))) (aCons (mVal (.str ("text" : Str))) (aCons (mVal (.str ("drop" : Str))) (aCons (mVal (.str ("count" : Str))) (aCons (mVal (.str ("start" : Str))) (aNil)))))))))))))
  (sSeq (sIf (mTest (mOp oEq (mFnK c__law_draw (pick [(false, 0), (false, 1)]) 2 0 (aCons (mVar 0) (aCons (mVal (.int 4)) (aNil))) (aNil)) (mVal (.int 0)))) (sFor (iRange1 (mVar 1)) (gNm 4)
  (sSeq (sSet 10 (mOp oIxA (mVar 9) (mFnK c__law_draw (pick [(false, 0), (false, 1)]) 2 0 (aCons (mVar 0) (aCons (mVal (.int 10)) (aNil))) (aNil))))
  (sIf (mTest (mOp oNotIn (mVar 10) (mVar 8))) (sPut 8 (mVar 10) (mVar 4)) (sNext)))) (sNext))
  (sRet (mVar 8)))))))))
theorem me__law_names (c__law_draw : Ct) : mi__law_names c__law_draw = m__law_names c__law_draw := by rfl
theorem d__law_names {P : Program} {w : World} {K : Fg} {mg : Str → Option Value} {base : Heap} {f : Addr} {cdv : Value} {A : Around} {outer : List Env} {s : Shared} {H : Hp} {E : XK} {k : Nat} {c__law_draw : Ct} (g : Gb w K mg)
    (h__law_draw_2 : Def P w K mg base k "_law_draw" 2 [] (pick [(false, 0), (false, 1)]) c__law_draw)
    (hr : Room k (A.deeper (envOfC "_law_names" (defScope s__law_names) s.heap.objs.size f cdv))) (hgu : A.guards = some []) :
    DSs (cxOf CX0 P w K mg base N__law_names "_law_names" (defScope s__law_names) f cdv A outer s H E).nox (defBody s__law_names) (m__law_names c__law_draw) :=
  have nd := sc__law_names.nd
  have h : DSs (cxOf CX0 P w K mg base N__law_names "_law_names" (defScope s__law_names) f cdv A outer s H E).nox (defBody s__law_names) (mi__law_names c__law_draw) :=
  (dss_cons (dst 2 nd (de_str))
  (dss_cons (dst 3 nd (de_sm smd_join PySem.F.slot_str_join PySem.F.type_str_join (de_str) (da_cons (de_lc (own := [(("_law_k" : Str), 4)]) (by rfl) nd (di_range1 (by rfl) g.b_range (de_ixA (u1 hr) (de_lst (da_cons (de_int) (da_cons (de_int) (da_cons (de_def h__law_draw_2 hr hgu (by rfl) (da_cons (dv 0) (da_cons (de_int) (da_nil)))) (da_nil))))) (de_def h__law_draw_2 hr hgu (by rfl) (da_cons (dv 0) (da_cons (de_int) (da_nil)))))) (blkOk_by (N := N__law_names) (sc := defScope s__law_names) (own := [(("_law_k" : Str), 4)]) (by decide +kernel)) (fun _ _ _ _ _ => dgn 4 nd) (fun _ _ _ _ _ => dts_nil) (fun _ _ _ _ _ => de_ixA (u1 hr) (dv 2) (de_def h__law_draw_2 hr hgu (by rfl) (da_cons (dv 0) (da_cons (de_int) (da_nil)))))) (da_nil))))
  (dss_cons (dst 5 nd (de_def h__law_draw_2 hr hgu (by rfl) (da_cons (dv 0) (da_cons (de_op opd_add (de_callB calld_len (by rfl) g.b_len (by rfl) (da_cons (dv 3) (da_nil))) (de_int)) (da_nil)))))
  (dss_cons (dst 6 nd (de_def h__law_draw_2 hr hgu (by rfl) (da_cons (dv 0) (da_cons (de_int) (da_nil)))))
  (dss_cons (dst 7 nd (de_ixA (u1 hr) (de_lst (da_cons (de_int) (da_cons (de_int) (da_cons (de_int) (da_cons (de_int) (da_cons (de_int) (da_cons (de_int) (da_nil)))))))) (de_def h__law_draw_2 hr hgu (by rfl) (da_cons (dv 0) (da_cons (de_int) (da_nil))))))
  (dss_cons (ds_setLc (i := 8) (own := [(("_law_k" : Str), 4)]) (by rfl) nd (by rfl) (by rfl) (by rfl) (di_range1 (by rfl) g.b_range (dv 1)) (blkOk_by (N := N__law_names) (sc := defScope s__law_names) (own := [(("_law_k" : Str), 4)]) (by decide +kernel)) (fun _ _ _ _ _ => dgn 4 nd) (fun _ _ _ _ _ => dts_nil) (fun _ _ _ _ _ => de_op opd_add (de_op opd_add (de_slice (dv 3) (do_none) (do_some (dv 5))) (de_ixA (u1 hr) (dv 2) (de_op opd_mod (de_op opd_add (dv 6) (de_op opd_mul (dv 7) (dv 4))) (de_int)))) (de_slice (dv 3) (do_some (dv 5)) (do_none))))
  (dss_cons (dst 9 nd (de_lst (da_cons (de_str) (da_cons (de_str) (da_cons (de_str) (da_cons (de_str) (da_cons (de_str) (da_cons (de_str) (da_cons (de_str) (da_cons (de_str) (da_cons (de_str) (da_cons (de_str) (da_nil)))))))))))))
  (dss_cons (ds_if (dtc (opd_eq (u64 hr)) (de_def h__law_draw_2 hr hgu (by rfl) (da_cons (dv 0) (da_cons (de_int) (da_nil)))) (de_int)) (dss_one (ds_for (vs := [4]) PassesOwn.never (by rfl) (di_range1 (by rfl) g.b_range (dv 1)) (dgn 4 nd)
  (dss_cons (dst 10 nd (de_ixA (u1 hr) (dv 9) (de_def h__law_draw_2 hr hgu (by rfl) (da_cons (dv 0) (da_cons (de_int) (da_nil))))))
  (dss_one (ds_if (dtc (opd_notin (u65 hr)) (dv 10) (dv 8)) (dss_one (ds_put (i := 8) (by rfl) (by first | exact .inl rfl | exact .inr (.inl rfl) | exact .inr (.inr rfl)) (dv 10) (dv 4))) (dss_nil)))))) (dss_nil))
  (dss_one (ds_ret (dv 8)))))))))))
  me__law_names c__law_draw ▸ h
def N__law_leaf : List Str := ["_law_pen", "_law_names_here", "_law_way", "_law_title", "_law_some"]
theorem sc__law_leaf : FnScope N__law_leaf ["_law_pen", "_law_names_here"] (defScope s__law_leaf) := ⟨rfl, rfl, rfl, by decide +kernel, rfl, by decide +kernel, by decide +kernel⟩
def m__law_leaf_0 (c__law_draw : Ct) (c__law_signs : Ct) : MS :=
  sRet (mOp oIxA (mOp oAdd (mVar 4) (mLst (aCons (mTup (aCons (mVal (.str ("again" : Str))) (aCons (mVar 3) (aNil)))) (aCons (mTup (aCons (mVal (.str ("sign" : Str))) (aCons (mVal (.str ("ab" : Str))) (aNil)))) (aCons (mTup (aCons (mVal (.str ("but" : Str))) (aCons (mVal (.str ("" : Str))) (aNil)))) (aNil)))))) (mVar 2))
def m__law_leaf_1 (c__law_draw : Ct) (c__law_signs : Ct) : MS :=
  sSeq (sSet 4 (mLst (aCons (mTup (aCons (mVal (.str ("sign" : Str))) (aCons (mFnK c__law_signs (pick [(false, 0)]) 1 0 (aCons (mVar 0) (aNil)) (aNil)) (aNil)))) (aCons (mTup (aCons (mVal (.str ("but" : Str))) (aCons (mSl (mFnK c__law_signs (pick [(false, 0)]) 1 0 (aCons (mVar 0) (aNil)) (aNil)) (oNone) (oSome (mVal (.int 94)))) (aNil)))) (aCons (mTup (aCons (mVal (.str ("name" : Str))) (aCons (mVar 3) (aNil)))) (aCons (mTup (aCons (mVal (.str ("nothing" : Str))) (aNil))) (aCons (mTup (aCons (mVal (.str ("never" : Str))) (aNil))) (aNil))))))))
  (m__law_leaf_0 c__law_draw c__law_signs)
def m__law_leaf_2 (c__law_draw : Ct) (c__law_signs : Ct) : MS :=
  sSeq (sSet 3 (mOp oIxA (mVar 1) (mFnK c__law_draw (pick [(false, 0), (false, 1)]) 2 0 (aCons (mVar 0) (aCons (mSel 1 (mDLen 1) (mCall cLen (aCons (mVar 1) (aNil)))) (aNil))) (aNil))))
  (m__law_leaf_1 c__law_draw c__law_signs)
def m__law_leaf_3 (c__law_draw : Ct) (c__law_signs : Ct) : MS :=
  sSeq (sSet 2 (mFnK c__law_draw (pick [(false, 0), (false, 1)]) 2 0 (aCons (mVar 0) (aCons (mVal (.int 8)) (aNil))) (aNil)))
  (m__law_leaf_2 c__law_draw c__law_signs)
def m__law_leaf (c__law_draw : Ct) (c__law_signs : Ct) : MS := m__law_leaf_3 c__law_draw c__law_signs
def mi__law_leaf (c__law_draw : Ct) (c__law_signs : Ct) : MS :=
  sSeq (sSet 2 (mFnK c__law_draw (pick [(false, 0), (false, 1)]) 2 0 (aCons (mVar 0) (aCons (mVal (.int 8)) (aNil))) (aNil)))
  (sSeq (sSet 3 (mOp oIxA (mVar 1) (mFnK c__law_draw (pick [(false, 0), (false, 1)]) 2 0 (aCons (mVar 0) (aCons (mSel 1 (mDLen 1) (mCall cLen (aCons (mVar 1) (aNil)))) (aNil))) (aNil))))
  (sSeq (sSet 4 (mLst (aCons (mTup (aCons (mVal (.str ("sign" : Str))) (aCons (mFnK c__law_signs (pick [(false, 0)]) 1 0 (aCons (mVar 0) (aNil)) (aNil)) (aNil)))) (aCons (mTup (aCons (mVal (.str ("but" : Str))) (aCons (mSl (mFnK c__law_signs (pick [(false, 0)]) 1 0 (aCons (mVar 0) (aNil)) (aNil)) (oNone) (oSome (mVal (.int 94)))) (aNil)))) (aCons (mTup (aCons (mVal (.str ("name" : Str))) (aCons (mVar 3) (aNil)))) (aCons (mTup (aCons (mVal (.str ("nothing" : Str))) (aNil))) (aCons (mTup (aCons (mVal (.str ("never" : Str))) (aNil))) (aNil))))))))
  (sRet (mOp oIxA (mOp oAdd (mVar 4) (mLst (aCons (mTup (aCons (mVal (.str ("again" : Str))) (aCons (mVar 3) (aNil)))) (aCons (mTup (aCons (mVal (.str ("sign" : Str))) (aCons (mVal (.str ("ab" : Str))) (aNil)))) (aCons (mTup (aCons (mVal (.str ("but" : Str))) (aCons (mVal (.str ("" : Str))) (aNil)))) (aNil)))))) (mVar 2)))))
theorem me__law_leaf (c__law_draw : Ct) (c__law_signs : Ct) : mi__law_leaf c__law_draw c__law_signs = m__law_leaf c__law_draw c__law_signs := by rfl
theorem d__law_leaf {P : Program} {w : World} {K : Fg} {mg : Str → Option Value} {base : Heap} {f : Addr} {cdv : Value} {A : Around} {outer : List Env} {s : Shared} {H : Hp} {E : XK} {k : Nat} {c__law_draw c__law_signs : Ct} (g : Gb w K mg)
    (h__law_draw_2 : Def P w K mg base k "_law_draw" 2 [] (pick [(false, 0), (false, 1)]) c__law_draw)
    (h__law_signs_1 : Def P w K mg base k "_law_signs" 1 [] (pick [(false, 0)]) c__law_signs)
    (hr : Room k (A.deeper (envOfC "_law_leaf" (defScope s__law_leaf) s.heap.objs.size f cdv))) (hgu : A.guards = some []) :
    DSs (cxOf CX0 P w K mg base N__law_leaf "_law_leaf" (defScope s__law_leaf) f cdv A outer s H E).nox (defBody s__law_leaf) (m__law_leaf c__law_draw c__law_signs) :=
  have nd := sc__law_leaf.nd
  have h : DSs (cxOf CX0 P w K mg base N__law_leaf "_law_leaf" (defScope s__law_leaf) f cdv A outer s H E).nox (defBody s__law_leaf) (mi__law_leaf c__law_draw c__law_signs) :=
  (dss_cons (dst 2 nd (de_def h__law_draw_2 hr hgu (by rfl) (da_cons (dv 0) (da_cons (de_int) (da_nil)))))
  (dss_cons (dst 3 nd (de_ixA (u1 hr) (dv 1) (de_def h__law_draw_2 hr hgu (by rfl) (da_cons (dv 0) (da_cons (de_sel (de_dlen (i := 1) (by rfl) g.b_len (by rfl) (by first | exact .inl rfl | exact .inr (.inl rfl) | exact .inr (.inr rfl))) (de_callB calld_len (by rfl) g.b_len (by rfl) (da_cons (dv 1) (da_nil)))) (da_nil))))))
  (dss_cons (dst 4 nd (de_lst (da_cons (de_tup (da_cons (de_str) (da_cons (de_def h__law_signs_1 hr hgu (by rfl) (da_cons (dv 0) (da_nil))) (da_nil)))) (da_cons (de_tup (da_cons (de_str) (da_cons (de_slice (de_def h__law_signs_1 hr hgu (by rfl) (da_cons (dv 0) (da_nil))) (do_none) (do_some (de_int))) (da_nil)))) (da_cons (de_tup (da_cons (de_str) (da_cons (dv 3) (da_nil)))) (da_cons (de_tup (da_cons (de_str) (da_nil))) (da_cons (de_tup (da_cons (de_str) (da_nil))) (da_nil))))))))
  (dss_one (ds_ret (de_ixA (u1 hr) (de_op opd_add (dv 4) (de_lst (da_cons (de_tup (da_cons (de_str) (da_cons (dv 3) (da_nil)))) (da_cons (de_tup (da_cons (de_str) (da_cons (de_str) (da_nil)))) (da_cons (de_tup (da_cons (de_str) (da_cons (de_str) (da_nil)))) (da_nil)))))) (dv 2)))))))
  me__law_leaf c__law_draw c__law_signs ▸ h
def N__law_reader : List Str := ["_law_pen", "_law_names_here", "_law_deep", "_law_left", "_law_way", "_law_title", "_law_many", "_law_parts_here", "_law_k", "_law_word"]
theorem sc__law_reader : FnScope N__law_reader ["_law_pen", "_law_names_here", "_law_deep", "_law_left"] (defScope s__law_reader) := ⟨rfl, rfl, rfl, by decide +kernel, rfl, by decide +kernel, by decide +kernel⟩
def m__law_reader_0 (c__law_draw : Ct) (c__law_leaf : Ct) (c__law_reader : Ct) : MS :=
  sRet (mFnK c__law_leaf (pick [(false, 0), (false, 1)]) 2 0 (aCons (mVar 0) (aCons (mVar 1) (aNil))) (aNil))
def m__law_reader_1 (c__law_draw : Ct) (c__law_leaf : Ct) (c__law_reader : Ct) : MS :=
  sSet 6 (mVal (.int 1))
def m__law_reader_2 (c__law_draw : Ct) (c__law_leaf : Ct) (c__law_reader : Ct) : MS :=
  sSeq (sSet 4 (mOp oAdd (mVal (.int 5)) (mVar 4)))
  (m__law_reader_1 c__law_draw c__law_leaf c__law_reader)
def m__law_reader_3 (c__law_draw : Ct) (c__law_leaf : Ct) (c__law_reader : Ct) : MS :=
  sRet (mTup (aCons (mOp oIxA (mLst (aCons (mVal (.str ("row" : Str))) (aCons (mVal (.str ("row" : Str))) (aCons (mVal (.str ("row" : Str))) (aCons (mVal (.str ("choice" : Str))) (aCons (mVal (.str ("choice" : Str))) (aNil))))))) (mVar 4)) (aCons (mVar 7) (aNil))))
def m__law_reader_4 (c__law_draw : Ct) (c__law_leaf : Ct) (c__law_reader : Ct) : MS :=
  sRet (mTup (aCons (mVar 9) (aCons (mOp oIxA (mLst (aCons (mVal (.str ("text" : Str))) (aCons (mVal (.str ("drop" : Str))) (aCons (mVal (.str ("count" : Str))) (aCons (mVal (.str ("number" : Str))) (aNil)))))) (mFnK c__law_draw (pick [(false, 0), (false, 1)]) 2 0 (aCons (mVar 0) (aCons (mVal (.int 4)) (aNil))) (aNil))) (aCons (mOp oIxA (mVar 7) (mVal (.int 0))) (aNil)))))
def m__law_reader_5 (c__law_draw : Ct) (c__law_leaf : Ct) (c__law_reader : Ct) : MS :=
  sRet (mIf (mTest (mOp oIn (mVar 9) (mTup (aCons (mVal (.str ("hold" : Str))) (aCons (mVal (.str ("tag" : Str))) (aNil)))))) (mTup (aCons (mVar 9) (aCons (mVar 5) (aCons (mOp oIxA (mVar 7) (mVal (.int 0))) (aNil))))) (mTup (aCons (mVar 9) (aCons (mOp oIxA (mVar 7) (mVal (.int 0))) (aNil)))))
def m__law_reader_6 (c__law_draw : Ct) (c__law_leaf : Ct) (c__law_reader : Ct) : MS :=
  sSeq (sIf (mTest (mOp oEq (mVar 9) (mVal (.str ("make" : Str))))) (m__law_reader_4 c__law_draw c__law_leaf c__law_reader) (sNext))
  (m__law_reader_5 c__law_draw c__law_leaf c__law_reader)
def m__law_reader_7 (c__law_draw : Ct) (c__law_leaf : Ct) (c__law_reader : Ct) : MS :=
  sSeq (sSet 9 (mOp oIxA (mLst (aCons (mVal (.str ("many" : Str))) (aCons (mVal (.str ("maybe" : Str))) (aCons (mVal (.str ("ahead" : Str))) (aCons (mVal (.str ("not" : Str))) (aCons (mVal (.str ("hold" : Str))) (aCons (mVal (.str ("tag" : Str))) (aCons (mVal (.str ("make" : Str))) (aNil))))))))) (mOp oSub (mVar 4) (mVal (.int 5)))))
  (m__law_reader_6 c__law_draw c__law_leaf c__law_reader)
def m__law_reader_8 (c__law_draw : Ct) (c__law_leaf : Ct) (c__law_reader : Ct) : MS :=
  sSeq (sIf (mTest (mOp oLt (mVar 4) (mVal (.int 5)))) (m__law_reader_3 c__law_draw c__law_leaf c__law_reader) (sNext))
  (m__law_reader_7 c__law_draw c__law_leaf c__law_reader)
def m__law_reader_9 (c__law_draw : Ct) (c__law_leaf : Ct) (c__law_reader : Ct) : MS :=
  sSeq (sSet 7 (mCall cTuple (aCons (mLc [8] (iRange1 (mVar 6)) (gNm 8) (bYes) (mFnK c__law_reader (pick [(false, 0), (false, 1), (false, 2), (false, 3)]) 4 0 (aCons (mVar 0) (aCons (mVar 1) (aCons (mOp oSub (mVar 2) (mVal (.int 1))) (aCons (mVar 3) (aNil))))) (aNil))) (aNil))))
  (m__law_reader_8 c__law_draw c__law_leaf c__law_reader)
def m__law_reader_10 (c__law_draw : Ct) (c__law_leaf : Ct) (c__law_reader : Ct) : MS :=
  sSeq (sAugS 3 pSub (mVal (.int 0)) (mVar 6))
  (m__law_reader_9 c__law_draw c__law_leaf c__law_reader)
def m__law_reader_11 (c__law_draw : Ct) (c__law_leaf : Ct) (c__law_reader : Ct) : MS :=
  sSeq (sIf (bAnd (mTest (mOp oLt (mVar 4) (mVal (.int 5)))) (mTest (mOp oLt (mVar 6) (mVal (.int 2))))) (m__law_reader_2 c__law_draw c__law_leaf c__law_reader) (sNext))
  (m__law_reader_10 c__law_draw c__law_leaf c__law_reader)
def m__law_reader_12 (c__law_draw : Ct) (c__law_leaf : Ct) (c__law_reader : Ct) : MS :=
  sSeq (sSet 6 (mCall cMinA (aCons (mOp oIxA (mLst (aCons (mOp oAdd (mVal (.int 2)) (mFnK c__law_draw (pick [(false, 0), (false, 1)]) 2 0 (aCons (mVar 0) (aCons (mVal (.int 5)) (aNil))) (aNil))) (aCons (mVal (.int 1)) (aNil)))) (mCall cInt (aCons (mOp oGt (mVar 4) (mVal (.int 4))) (aNil)))) (aCons (mOp oIxA (mVar 3) (mVal (.int 0))) (aNil)))))
  (m__law_reader_11 c__law_draw c__law_leaf c__law_reader)
def m__law_reader_13 (c__law_draw : Ct) (c__law_leaf : Ct) (c__law_reader : Ct) : MS :=
  sSeq (sSet 5 (mOp oIxA (mVar 1) (mFnK c__law_draw (pick [(false, 0), (false, 1)]) 2 0 (aCons (mVar 0) (aCons (mSel 1 (mDLen 1) (mCall cLen (aCons (mVar 1) (aNil)))) (aNil))) (aNil))))
  (m__law_reader_12 c__law_draw c__law_leaf c__law_reader)
def m__law_reader_14 (c__law_draw : Ct) (c__law_leaf : Ct) (c__law_reader : Ct) : MS :=
  sSeq (sIf (bOr (mTest (mOp oLt (mVar 2) (mVal (.int 2)))) (bOr (mTest (mOp oLt (mOp oIxA (mVar 3) (mVal (.int 0))) (mVal (.int 1)))) (mTest (mOp oEq (mVar 4) (mVal (.int 0)))))) (m__law_reader_0 c__law_draw c__law_leaf c__law_reader) (sNext))
  (m__law_reader_13 c__law_draw c__law_leaf c__law_reader)
def m__law_reader_15 (c__law_draw : Ct) (c__law_leaf : Ct) (c__law_reader : Ct) : MS :=
  sSeq (sSet 4 (mFnK c__law_draw (pick [(false, 0), (false, 1)]) 2 0 (aCons (mVar 0) (aCons (mVal (.int 12)) (aNil))) (aNil)))
  (m__law_reader_14 c__law_draw c__law_leaf c__law_reader)
def m__law_reader (c__law_draw : Ct) (c__law_leaf : Ct) (c__law_reader : Ct) : MS := m__law_reader_15 c__law_draw c__law_leaf c__law_reader
def mi__law_reader (c__law_draw : Ct) (c__law_leaf : Ct) (c__law_reader : Ct) : MS :=
  sSeq (sSet 4 (mFnK c__law_draw (pick [(false, 0), (false, 1)]) 2 0 (aCons (mVar 0) (aCons (mVal (.int 12)) (aNil))) (aNil)))
  (sSeq (sIf (bOr (mTest (mOp oLt (mVar 2) (mVal (.int 2)))) (bOr (mTest (mOp oLt (mOp oIxA (mVar 3) (mVal (.int 0))) (mVal (.int 1)))) (mTest (mOp oEq (mVar 4) (mVal (.int 0)))))) (sRet (mFnK c__law_leaf (pick [(false, 0), (false, 1)]) 2 0 (aCons (mVar 0) (aCons (mVar 1) (aNil))) (aNil))) (sNext))
  (sSeq (sSet 5 (mOp oIxA (mVar 1) (mFnK c__law_draw (pick [(false, 0), (false, 1)]) 2 0 (aCons (mVar 0) (aCons (mSel 1 (mDLen 1) (mCall cLen (aCons (mVar 1) (aNil)))) (aNil))) (aNil))))
  (sSeq (sSet 6 (mCall cMinA (aCons (mOp oIxA (mLst (aCons (mOp oAdd (mVal (.int 2)) (mFnK c__law_draw (pick [(false, 0), (false, 1)]) 2 0 (aCons (mVar 0) (aCons (mVal (.int 5)) (aNil))) (aNil))) (aCons (mVal (.int 1)) (aNil)))) (mCall cInt (aCons (mOp oGt (mVar 4) (mVal (.int 4))) (aNil)))) (aCons (mOp oIxA (mVar 3) (mVal (.int 0))) (aNil)))))
  (sSeq (sIf (bAnd (mTest (mOp oLt (mVar 4) (mVal (.int 5)))) (mTest (mOp oLt (mVar 6) (mVal (.int 2))))) (sSeq (sSet 4 (mOp oAdd (mVal (.int 5)) (mVar 4)))
  (sSet 6 (mVal (.int 1)))) (sNext))
  (sSeq (sAugS 3 pSub (mVal (.int 0)) (mVar 6))
  (sSeq (sSet 7 (mCall cTuple (aCons (mLc [8] (iRange1 (mVar 6)) (gNm 8) (bYes) (mFnK c__law_reader (pick [(false, 0), (false, 1), (false, 2), (false, 3)]) 4 0 (aCons (mVar 0) (aCons (mVar 1) (aCons (mOp oSub (mVar 2) (mVal (.int 1))) (aCons (mVar 3) (aNil))))) (aNil))) (aNil))))
  (sSeq (sIf (mTest (mOp oLt (mVar 4) (mVal (.int 5)))) (sRet (mTup (aCons (mOp oIxA (mLst (aCons (mVal (.str ("row" : Str))) (aCons (mVal (.str ("row" : Str))) (aCons (mVal (.str ("row" : Str))) (aCons (mVal (.str ("choice" : Str))) (aCons (mVal (.str ("choice" : Str))) (aNil))))))) (mVar 4)) (aCons (mVar 7) (aNil))))) (sNext))
  (sSeq (sSet 9 (mOp oIxA (mLst (aCons (mVal (.str ("many" : Str))) (aCons (mVal (.str ("maybe" : Str))) (aCons (mVal (.str ("ahead" : Str))) (aCons (mVal (.str ("not" : Str))) (aCons (mVal (.str ("hold" : Str))) (aCons (mVal (.str ("tag" : Str))) (aCons (mVal (.str ("make" : Str))) (aNil))))))))) (mOp oSub (mVar 4) (mVal (.int 5)))))
  (sSeq (sIf (mTest (mOp oEq (mVar 9) (mVal (.str ("make" : Str))))) (sRet (mTup (aCons (mVar 9) (aCons (mOp oIxA (mLst (aCons (mVal (.str ("text" : Str))) (aCons (mVal (.str ("drop" : Str))) (aCons (mVal (.str ("count" : Str))) (aCons (mVal (.str ("number" : Str))) (aNil)))))) (mFnK c__law_draw (pick [(false, 0), (false, 1)]) 2 0 (aCons (mVar 0) (aCons (mVal (.int 4)) (aNil))) (aNil))) (aCons (mOp oIxA (mVar 7) (mVal (.int 0))) (aNil)))))) (sNext))
  (sRet (mIf (mTest (mOp oIn (mVar 9) (mTup (aCons (mVal (.str ("hold" : Str))) (aCons (mVal (.str ("tag" : Str))) (aNil)))))) (mTup (aCons (mVar 9) (aCons (mVar 5) (aCons (mOp oIxA (mVar 7) (mVal (.int 0))) (aNil))))) (mTup (aCons (mVar 9) (aCons (mOp oIxA (mVar 7) (mVal (.int 0))) (aNil)))))))))))))))
theorem me__law_reader (c__law_draw : Ct) (c__law_leaf : Ct) (c__law_reader : Ct) : mi__law_reader c__law_draw c__law_leaf c__law_reader = m__law_reader c__law_draw c__law_leaf c__law_reader := by rfl
theorem d__law_reader {P : Program} {w : World} {K : Fg} {mg : Str → Option Value} {base : Heap} {f : Addr} {cdv : Value} {A : Around} {outer : List Env} {s : Shared} {H : Hp} {E : XK} {k : Nat} {c__law_draw c__law_leaf c__law_reader : Ct} (g : Gb w K mg)
    (h__law_draw_2 : Def P w K mg base k "_law_draw" 2 [] (pick [(false, 0), (false, 1)]) c__law_draw)
    (h__law_leaf_2 : Def P w K mg base k "_law_leaf" 2 [] (pick [(false, 0), (false, 1)]) c__law_leaf)
    (h__law_reader_4 : Def P w K mg base k "_law_reader" 4 [] (pick [(false, 0), (false, 1), (false, 2), (false, 3)]) c__law_reader)
    (hr : Room k (A.deeper (envOfC "_law_reader" (defScope s__law_reader) s.heap.objs.size f cdv))) (hgu : A.guards = some []) :
    DSs (cxOf CX0 P w K mg base N__law_reader "_law_reader" (defScope s__law_reader) f cdv A outer s H E).nox (defBody s__law_reader) (m__law_reader c__law_draw c__law_leaf c__law_reader) :=
  have nd := sc__law_reader.nd
  have h : DSs (cxOf CX0 P w K mg base N__law_reader "_law_reader" (defScope s__law_reader) f cdv A outer s H E).nox (defBody s__law_reader) (mi__law_reader c__law_draw c__law_leaf c__law_reader) :=
  (dss_cons (dst 4 nd (de_def h__law_draw_2 hr hgu (by rfl) (da_cons (dv 0) (da_cons (de_int) (da_nil)))))
  (dss_cons (ds_if (dt_w (dw_or (dtc opd_lt (dv 2) (de_int)) (dw_or (dtc opd_lt (de_ixA (u1 hr) (dv 3) (de_int)) (de_int)) (dw_or1 (dtc (opd_eq (u64 hr)) (dv 4) (de_int)))))) (dss_one (ds_ret (de_def h__law_leaf_2 hr hgu (by rfl) (da_cons (dv 0) (da_cons (dv 1) (da_nil)))))) (dss_nil))
  (dss_cons (dst 5 nd (de_ixA (u1 hr) (dv 1) (de_def h__law_draw_2 hr hgu (by rfl) (da_cons (dv 0) (da_cons (de_sel (de_dlen (i := 1) (by rfl) g.b_len (by rfl) (by first | exact .inl rfl | exact .inr (.inl rfl) | exact .inr (.inr rfl))) (de_callB calld_len (by rfl) g.b_len (by rfl) (da_cons (dv 1) (da_nil)))) (da_nil))))))
  (dss_cons (dst 6 nd (de_callB (calld_minA (by rfl)) (by rfl) g.b_min (by rfl) (da_cons (de_ixA (u1 hr) (de_lst (da_cons (de_op opd_add (de_int) (de_def h__law_draw_2 hr hgu (by rfl) (da_cons (dv 0) (da_cons (de_int) (da_nil))))) (da_cons (de_int) (da_nil)))) (de_callTy calld_int (by rfl) g.b_int (by rfl) (da_cons (dec opd_gt (dv 4) (de_int)) (da_nil)))) (da_cons (de_ixA (u1 hr) (dv 3) (de_int)) (da_nil)))))
  (dss_cons (ds_if (dt_w (dw_and (dtc opd_lt (dv 4) (de_int)) (dw_and1 (dtc opd_lt (dv 6) (de_int))))) (dss_cons (dst 4 nd (de_op opd_add (de_int) (dv 4)))
  (dss_one (dst 6 nd (de_int)))) (dss_nil))
  (dss_cons (ds_augS (i := 3) (by rfl) (by first | exact .inl rfl | exact .inr (.inl rfl) | exact .inr (.inr rfl)) ipd_sub (de_int) (dv 6))
  (dss_cons (dst 7 nd (de_callTy calld_tuple (by rfl) g.b_tuple (by rfl) (da_cons (de_lc (own := [(("_law_k" : Str), 8)]) (by rfl) nd (di_range1 (by rfl) g.b_range (dv 6)) (blkOk_by (N := N__law_reader) (sc := defScope s__law_reader) (own := [(("_law_k" : Str), 8)]) (by decide +kernel)) (fun _ _ _ _ _ => dgn 8 nd) (fun _ _ _ _ _ => dts_nil) (fun _ _ _ _ _ => de_def h__law_reader_4 hr hgu (by rfl) (da_cons (dv 0) (da_cons (dv 1) (da_cons (de_op opd_sub (dv 2) (de_int)) (da_cons (dv 3) (da_nil))))))) (da_nil))))
  (dss_cons (ds_if (dtc opd_lt (dv 4) (de_int)) (dss_one (ds_ret (de_tup (da_cons (de_ixA (u1 hr) (de_lst (da_cons (de_str) (da_cons (de_str) (da_cons (de_str) (da_cons (de_str) (da_cons (de_str) (da_nil))))))) (dv 4)) (da_cons (dv 7) (da_nil)))))) (dss_nil))
  (dss_cons (dst 9 nd (de_ixA (u1 hr) (de_lst (da_cons (de_str) (da_cons (de_str) (da_cons (de_str) (da_cons (de_str) (da_cons (de_str) (da_cons (de_str) (da_cons (de_str) (da_nil))))))))) (de_op opd_sub (dv 4) (de_int))))
  (dss_cons (ds_if (dtc (opd_eq (u64 hr)) (dv 9) (de_str)) (dss_one (ds_ret (de_tup (da_cons (dv 9) (da_cons (de_ixA (u1 hr) (de_lst (da_cons (de_str) (da_cons (de_str) (da_cons (de_str) (da_cons (de_str) (da_nil)))))) (de_def h__law_draw_2 hr hgu (by rfl) (da_cons (dv 0) (da_cons (de_int) (da_nil))))) (da_cons (de_ixA (u1 hr) (dv 7) (de_int)) (da_nil))))))) (dss_nil))
  (dss_one (ds_ret (de_if (dtc (opd_in (u65 hr)) (dv 9) (de_tup (da_cons (de_str) (da_cons (de_str) (da_nil))))) (de_tup (da_cons (dv 9) (da_cons (dv 5) (da_cons (de_ixA (u1 hr) (dv 7) (de_int)) (da_nil))))) (de_tup (da_cons (dv 9) (da_cons (de_ixA (u1 hr) (dv 7) (de_int)) (da_nil)))))))))))))))))
  me__law_reader c__law_draw c__law_leaf c__law_reader ▸ h
def N__law_book : List Str := ["_law_pen", "_law_most", "_law_names_here", "_law_left", "_law_title"]
theorem sc__law_book : FnScope N__law_book ["_law_pen", "_law_most"] (defScope s__law_book) := ⟨rfl, rfl, rfl, by decide +kernel, rfl, by decide +kernel, by decide +kernel⟩
def m__law_book_0 (c__law_names : Ct) (c__law_draw : Ct) (c__law_reader : Ct) : MS :=
  sRet (mCall cTuple (aCons (mLc [4] (iOf (mVar 2)) (gNm 4) (bYes) (mTup (aCons (mVar 4) (aCons (mFnK c__law_reader (pick [(false, 0), (false, 1), (false, 2), (false, 3)]) 4 0 (aCons (mVar 0) (aCons (mVar 2) (aCons (mOp oAdd (mVal (.int 1)) (mFnK c__law_draw (pick [(false, 0), (false, 1)]) 2 0 (aCons (mVar 0) (aCons (mVal (.int 8)) (aNil))) (aNil))) (aCons (mVar 3) (aNil))))) (aNil)) (aNil))))) (aNil)))
def m__law_book_1 (c__law_names : Ct) (c__law_draw : Ct) (c__law_reader : Ct) : MS :=
  sSeq (sSet 3 (mLst (aCons (mOp oIxA (mLst (aCons (mOp oSub (mVar 1) (mSel 2 (mDLen 2) (mCall cLen (aCons (mVar 2) (aNil))))) (aCons (mFnK c__law_draw (pick [(false, 0), (false, 1)]) 2 0 (aCons (mVar 0) (aCons (mOp oAdd (mOp oSub (mVar 1) (mSel 2 (mDLen 2) (mCall cLen (aCons (mVar 2) (aNil))))) (mVal (.int 1))) (aNil))) (aNil)) (aNil)))) (mFnK c__law_draw (pick [(false, 0), (false, 1)]) 2 0 (aCons (mVar 0) (aCons (mVal (.int 2)) (aNil))) (aNil))) (aNil))))
  (m__law_book_0 c__law_names c__law_draw c__law_reader)
def m__law_book_2 (c__law_names : Ct) (c__law_draw : Ct) (c__law_reader : Ct) : MS :=
  sSeq (sSet 2 (mFnK c__law_names (pick [(false, 0), (false, 1)]) 2 0 (aCons (mVar 0) (aCons (mOp oAdd (mVal (.int 1)) (mFnK c__law_draw (pick [(false, 0), (false, 1)]) 2 0 (aCons (mVar 0) (aCons (mCall cMinA (aCons (mVal (.int 8)) (aCons (mVar 1) (aNil)))) (aNil))) (aNil))) (aNil))) (aNil)))
  (m__law_book_1 c__law_names c__law_draw c__law_reader)
def m__law_book (c__law_names : Ct) (c__law_draw : Ct) (c__law_reader : Ct) : MS := m__law_book_2 c__law_names c__law_draw c__law_reader
def mi__law_book (c__law_names : Ct) (c__law_draw : Ct) (c__law_reader : Ct) : MS :=
  sSeq (sSet 2 (mFnK c__law_names (pick [(false, 0), (false, 1)]) 2 0 (aCons (mVar 0) (aCons (mOp oAdd (mVal (.int 1)) (mFnK c__law_draw (pick [(false, 0), (false, 1)]) 2 0 (aCons (mVar 0) (aCons (mCall cMinA (aCons (mVal (.int 8)) (aCons (mVar 1) (aNil)))) (aNil))) (aNil))) (aNil))) (aNil)))
  (sSeq (sSet 3 (mLst (aCons (mOp oIxA (mLst (aCons (mOp oSub (mVar 1) (mSel 2 (mDLen 2) (mCall cLen (aCons (mVar 2) (aNil))))) (aCons (mFnK c__law_draw (pick [(false, 0), (false, 1)]) 2 0 (aCons (mVar 0) (aCons (mOp oAdd (mOp oSub (mVar 1) (mSel 2 (mDLen 2) (mCall cLen (aCons (mVar 2) (aNil))))) (mVal (.int 1))) (aNil))) (aNil)) (aNil)))) (mFnK c__law_draw (pick [(false, 0), (false, 1)]) 2 0 (aCons (mVar 0) (aCons (mVal (.int 2)) (aNil))) (aNil))) (aNil))))
  (sRet (mCall cTuple (aCons (mLc [4] (iOf (mVar 2)) (gNm 4) (bYes) (mTup (aCons (mVar 4) (aCons (mFnK c__law_reader (pick [(false, 0), (false, 1), (false, 2), (false, 3)]) 4 0 (aCons (mVar 0) (aCons (mVar 2) (aCons (mOp oAdd (mVal (.int 1)) (mFnK c__law_draw (pick [(false, 0), (false, 1)]) 2 0 (aCons (mVar 0) (aCons (mVal (.int 8)) (aNil))) (aNil))) (aCons (mVar 3) (aNil))))) (aNil)) (aNil))))) (aNil)))))
theorem me__law_book (c__law_names : Ct) (c__law_draw : Ct) (c__law_reader : Ct) : mi__law_book c__law_names c__law_draw c__law_reader = m__law_book c__law_names c__law_draw c__law_reader := by rfl
theorem d__law_book {P : Program} {w : World} {K : Fg} {mg : Str → Option Value} {base : Heap} {f : Addr} {cdv : Value} {A : Around} {outer : List Env} {s : Shared} {H : Hp} {E : XK} {k : Nat} {c__law_names c__law_draw c__law_reader : Ct} (g : Gb w K mg)
    (h__law_names_2 : Def P w K mg base k "_law_names" 2 [] (pick [(false, 0), (false, 1)]) c__law_names)
    (h__law_draw_2 : Def P w K mg base k "_law_draw" 2 [] (pick [(false, 0), (false, 1)]) c__law_draw)
    (h__law_reader_4 : Def P w K mg base k "_law_reader" 4 [] (pick [(false, 0), (false, 1), (false, 2), (false, 3)]) c__law_reader)
    (hr : Room k (A.deeper (envOfC "_law_book" (defScope s__law_book) s.heap.objs.size f cdv))) (hgu : A.guards = some []) :
    DSs (cxOf CX0 P w K mg base N__law_book "_law_book" (defScope s__law_book) f cdv A outer s H E).nox (defBody s__law_book) (m__law_book c__law_names c__law_draw c__law_reader) :=
  have nd := sc__law_book.nd
  have h : DSs (cxOf CX0 P w K mg base N__law_book "_law_book" (defScope s__law_book) f cdv A outer s H E).nox (defBody s__law_book) (mi__law_book c__law_names c__law_draw c__law_reader) :=
  (dss_cons (dst 2 nd (de_def h__law_names_2 hr hgu (by rfl) (da_cons (dv 0) (da_cons (de_op opd_add (de_int) (de_def h__law_draw_2 hr hgu (by rfl) (da_cons (dv 0) (da_cons (de_callB (calld_minA (by rfl)) (by rfl) g.b_min (by rfl) (da_cons (de_int) (da_cons (dv 1) (da_nil)))) (da_nil))))) (da_nil)))))
  (dss_cons (dst 3 nd (de_lst (da_cons (de_ixA (u1 hr) (de_lst (da_cons (de_op opd_sub (dv 1) (de_sel (de_dlen (i := 2) (by rfl) g.b_len (by rfl) (by first | exact .inl rfl | exact .inr (.inl rfl) | exact .inr (.inr rfl))) (de_callB calld_len (by rfl) g.b_len (by rfl) (da_cons (dv 2) (da_nil))))) (da_cons (de_def h__law_draw_2 hr hgu (by rfl) (da_cons (dv 0) (da_cons (de_op opd_add (de_op opd_sub (dv 1) (de_sel (de_dlen (i := 2) (by rfl) g.b_len (by rfl) (by first | exact .inl rfl | exact .inr (.inl rfl) | exact .inr (.inr rfl))) (de_callB calld_len (by rfl) g.b_len (by rfl) (da_cons (dv 2) (da_nil))))) (de_int)) (da_nil)))) (da_nil)))) (de_def h__law_draw_2 hr hgu (by rfl) (da_cons (dv 0) (da_cons (de_int) (da_nil))))) (da_nil))))
  (dss_one (ds_ret (de_callTy calld_tuple (by rfl) g.b_tuple (by rfl) (da_cons (de_lc (own := [(("_law_title" : Str), 4)]) (by rfl) nd (di_of (dv 2)) (blkOk_by (N := N__law_book) (sc := defScope s__law_book) (own := [(("_law_title" : Str), 4)]) (by decide +kernel)) (fun _ _ _ _ _ => dgn 4 nd) (fun _ _ _ _ _ => dts_nil) (fun _ _ _ _ _ => de_tup (da_cons (dv 4) (da_cons (de_def h__law_reader_4 hr hgu (by rfl) (da_cons (dv 0) (da_cons (dv 2) (da_cons (de_op opd_add (de_int) (de_def h__law_draw_2 hr hgu (by rfl) (da_cons (dv 0) (da_cons (de_int) (da_nil))))) (da_cons (dv 3) (da_nil)))))) (da_nil))))) (da_nil)))))))
  me__law_book c__law_names c__law_draw c__law_reader ▸ h
def N__law_inner : List Str := ["_law_reader_here"]
theorem sc__law_inner : FnScope N__law_inner ["_law_reader_here"] (defScope s__law_inner) := ⟨rfl, rfl, rfl, by decide +kernel, rfl, by decide +kernel, by decide +kernel⟩
def m__law_inner_0 : MS :=
  sRet (mCall cListU (aCons (mOp oIxA (mVar 0) (mVal (.int 1))) (aNil)))
def m__law_inner_1 : MS :=
  sRet (mLst (aCons (mOp oIxA (mVar 0) (mOp oSub (mCall cLen (aCons (mVar 0) (aNil))) (mVal (.int 1)))) (aNil)))
def m__law_inner_2 : MS :=
  sRet (mLst (aNil))
def m__law_inner_3 : MS :=
  sSeq (sIf (mTest (mOp oIn (mOp oIxA (mVar 0) (mVal (.int 0))) (mTup (aCons (mVal (.str ("many" : Str))) (aCons (mVal (.str ("maybe" : Str))) (aCons (mVal (.str ("ahead" : Str))) (aCons (mVal (.str ("not" : Str))) (aCons (mVal (.str ("hold" : Str))) (aCons (mVal (.str ("tag" : Str))) (aCons (mVal (.str ("make" : Str))) (aNil))))))))))) (m__law_inner_1) (sNext))
  (m__law_inner_2)
def m__law_inner_4 : MS :=
  sSeq (sIf (mTest (mOp oIn (mOp oIxA (mVar 0) (mVal (.int 0))) (mTup (aCons (mVal (.str ("row" : Str))) (aCons (mVal (.str ("choice" : Str))) (aNil)))))) (m__law_inner_0) (sNext))
  (m__law_inner_3)
def m__law_inner : MS := m__law_inner_4
def mi__law_inner : MS :=
  sSeq (sIf (mTest (mOp oIn (mOp oIxA (mVar 0) (mVal (.int 0))) (mTup (aCons (mVal (.str ("row" : Str))) (aCons (mVal (.str ("choice" : Str))) (aNil)))))) (sRet (mCall cListU (aCons (mOp oIxA (mVar 0) (mVal (.int 1))) (aNil)))) (sNext))
  (sSeq (sIf (mTest (mOp oIn (mOp oIxA (mVar 0) (mVal (.int 0))) (mTup (aCons (mVal (.str ("many" : Str))) (aCons (mVal (.str ("maybe" : Str))) (aCons (mVal (.str ("ahead" : Str))) (aCons (mVal (.str ("not" : Str))) (aCons (mVal (.str ("hold" : Str))) (aCons (mVal (.str ("tag" : Str))) (aCons (mVal (.str ("make" : Str))) (aNil))))))))))) (sRet (mLst (aCons (mOp oIxA (mVar 0) (mOp oSub (mCall cLen (aCons (mVar 0) (aNil))) (mVal (.int 1)))) (aNil)))) (sNext))
  (sRet (mLst (aNil))))
theorem me__law_inner : mi__law_inner = m__law_inner := by rfl
theorem d__law_inner {P : Program} {w : World} {K : Fg} {mg : Str → Option Value} {base : Heap} {f : Addr} {cdv : Value} {A : Around} {outer : List Env} {s : Shared} {H : Hp} {E : XK} {k : Nat} (g : Gb w K mg)
    (hr : Room k (A.deeper (envOfC "_law_inner" (defScope s__law_inner) s.heap.objs.size f cdv))) (hgu : A.guards = some []) :
    DSs (cxOf CX0 P w K mg base N__law_inner "_law_inner" (defScope s__law_inner) f cdv A outer s H E).nox (defBody s__law_inner) (m__law_inner) :=
  have nd := sc__law_inner.nd
  have h : DSs (cxOf CX0 P w K mg base N__law_inner "_law_inner" (defScope s__law_inner) f cdv A outer s H E).nox (defBody s__law_inner) (mi__law_inner) :=
  (dss_cons (ds_if (dtc (opd_in (u65 hr)) (de_ixA (u1 hr) (dv 0) (de_int)) (de_tup (da_cons (de_str) (da_cons (de_str) (da_nil))))) (dss_one (ds_ret (de_callTy (calld_listU (by rfl)) (by rfl) g.b_list (by rfl) (da_cons (de_ixA (u1 hr) (dv 0) (de_int)) (da_nil))))) (dss_nil))
  (dss_cons (ds_if (dtc (opd_in (u65 hr)) (de_ixA (u1 hr) (dv 0) (de_int)) (de_tup (da_cons (de_str) (da_cons (de_str) (da_cons (de_str) (da_cons (de_str) (da_cons (de_str) (da_cons (de_str) (da_cons (de_str) (da_nil)))))))))) (dss_one (ds_ret (de_lst (da_cons (de_ixA (u1 hr) (dv 0) (de_op opd_sub (de_callB calld_len (by rfl) g.b_len (by rfl) (da_cons (dv 0) (da_nil))) (de_int))) (da_nil))))) (dss_nil))
  (dss_one (ds_ret (de_lst (da_nil))))))
  me__law_inner ▸ h
def N__law_parts : List Str := ["_law_reader_here", "_law_found", "_law_part"]
theorem sc__law_parts : FnScope N__law_parts ["_law_reader_here"] (defScope s__law_parts) := ⟨rfl, rfl, rfl, by decide +kernel, rfl, by decide +kernel, by decide +kernel⟩
def m__law_parts_0 (c__law_inner : Ct) (c__law_parts : Ct) : MS :=
  sSet 1 (mOp oAdd (mVar 1) (mFnK c__law_parts (pick [(false, 0)]) 1 0 (aCons (mVar 2) (aNil)) (aNil)))
def m__law_parts_1 (c__law_inner : Ct) (c__law_parts : Ct) : MS :=
  sRet (mVar 1)
def m__law_parts_2 (c__law_inner : Ct) (c__law_parts : Ct) : MS :=
  sSeq (sFor (iOf (mFnK c__law_inner (pick [(false, 0)]) 1 0 (aCons (mVar 0) (aNil)) (aNil))) (gNm 2)
  (m__law_parts_0 c__law_inner c__law_parts))
  (m__law_parts_1 c__law_inner c__law_parts)
def m__law_parts_3 (c__law_inner : Ct) (c__law_parts : Ct) : MS :=
  sSeq (sSet 1 (mLst (aCons (mVar 0) (aNil))))
  (m__law_parts_2 c__law_inner c__law_parts)
def m__law_parts (c__law_inner : Ct) (c__law_parts : Ct) : MS := m__law_parts_3 c__law_inner c__law_parts
def mi__law_parts (c__law_inner : Ct) (c__law_parts : Ct) : MS :=
  sSeq (sSet 1 (mLst (aCons (mVar 0) (aNil))))
  (sSeq (sFor (iOf (mFnK c__law_inner (pick [(false, 0)]) 1 0 (aCons (mVar 0) (aNil)) (aNil))) (gNm 2)
  (sSet 1 (mOp oAdd (mVar 1) (mFnK c__law_parts (pick [(false, 0)]) 1 0 (aCons (mVar 2) (aNil)) (aNil)))))
  (sRet (mVar 1)))
theorem me__law_parts (c__law_inner : Ct) (c__law_parts : Ct) : mi__law_parts c__law_inner c__law_parts = m__law_parts c__law_inner c__law_parts := by rfl
theorem d__law_parts {P : Program} {w : World} {K : Fg} {mg : Str → Option Value} {base : Heap} {f : Addr} {cdv : Value} {A : Around} {outer : List Env} {s : Shared} {H : Hp} {E : XK} {k : Nat} {c__law_inner c__law_parts : Ct} (g : Gb w K mg)
    (h__law_inner_1 : Def P w K mg base k "_law_inner" 1 [] (pick [(false, 0)]) c__law_inner)
    (h__law_parts_1 : Def P w K mg base k "_law_parts" 1 [] (pick [(false, 0)]) c__law_parts)
    (hr : Room k (A.deeper (envOfC "_law_parts" (defScope s__law_parts) s.heap.objs.size f cdv))) (hgu : A.guards = some []) :
    DSs (cxOf CX0 P w K mg base N__law_parts "_law_parts" (defScope s__law_parts) f cdv A outer s H E).nox (defBody s__law_parts) (m__law_parts c__law_inner c__law_parts) :=
  have nd := sc__law_parts.nd
  have h : DSs (cxOf CX0 P w K mg base N__law_parts "_law_parts" (defScope s__law_parts) f cdv A outer s H E).nox (defBody s__law_parts) (mi__law_parts c__law_inner c__law_parts) :=
  (dss_cons (dst 1 nd (de_lst (da_cons (dv 0) (da_nil))))
  (dss_cons (ds_for (vs := [2]) PassesOwn.never (by rfl) (di_of (de_def h__law_inner_1 hr hgu (by rfl) (da_cons (dv 0) (da_nil)))) (dgn 2 nd)
  (dss_one (dst 1 nd (de_op opd_add (dv 1) (de_def h__law_parts_1 hr hgu (by rfl) (da_cons (dv 2) (da_nil)))))))
  (dss_one (ds_ret (dv 1)))))
  me__law_parts c__law_inner c__law_parts ▸ h
def N__law_refused : List Str := ["_law_some", "_law_word", "_law_caught", "error"]
theorem sc__law_refused : FnScope N__law_refused ["_law_some", "_law_word"] (defScope s__law_refused) := ⟨rfl, rfl, rfl, by decide +kernel, rfl, by decide +kernel, by decide +kernel⟩
def m__law_refused_0 (c_part_of : Ct) (cx_part_of : CtX) : MS :=
  sExpr (mFnK c_part_of (fun xs zs => pick [(false, 0), (false, 1)] xs (zs ++ [.none].map R.val)) 2 0 (aCons (mVar 0) (aCons (mVar 1) (aNil))) (aNil))
def m__law_refused_1 (c_part_of : Ct) (cx_part_of : CtX) : MS :=
  sRet (mAnd (mIsX [("Unknown", true)] (mVar 2)) (mAnd (mIsX [("Unknown", true)] (mVar 2)) (mOp oEq (mCall cRepr (aCons (mXfd "name" ["Unknown"] (mVar 2)) (aNil))) (mCall cRepr (aCons (mVar 1) (aNil))))))
def m__law_refused_2 (c_part_of : Ct) (cx_part_of : CtX) : MS :=
  sSeq (sTry 3 2 ["Unknown"] (m__law_refused_0 c_part_of cx_part_of) (mFnX cx_part_of (fun xs zs => pick [(false, 0), (false, 1)] xs (zs ++ [.none].map R.val)) 2 0 (aCons (mVar 0) (aCons (mVar 1) (aNil))) (aNil)))
  (m__law_refused_1 c_part_of cx_part_of)
def m__law_refused_3 (c_part_of : Ct) (cx_part_of : CtX) : MS :=
  sSeq (sSet 2 (mVal .none))
  (m__law_refused_2 c_part_of cx_part_of)
def m__law_refused (c_part_of : Ct) (cx_part_of : CtX) : MS := m__law_refused_3 c_part_of cx_part_of
def mi__law_refused (c_part_of : Ct) (cx_part_of : CtX) : MS :=
  sSeq (sSet 2 (mVal .none))
  (sSeq (sTry 3 2 ["Unknown"] (sExpr (mFnK c_part_of (fun xs zs => pick [(false, 0), (false, 1)] xs (zs ++ [.none].map R.val)) 2 0 (aCons (mVar 0) (aCons (mVar 1) (aNil))) (aNil))) (mFnX cx_part_of (fun xs zs => pick [(false, 0), (false, 1)] xs (zs ++ [.none].map R.val)) 2 0 (aCons (mVar 0) (aCons (mVar 1) (aNil))) (aNil)))
  (sRet (mAnd (mIsX [("Unknown", true)] (mVar 2)) (mAnd (mIsX [("Unknown", true)] (mVar 2)) (mOp oEq (mCall cRepr (aCons (mXfd "name" ["Unknown"] (mVar 2)) (aNil))) (mCall cRepr (aCons (mVar 1) (aNil))))))))
theorem me__law_refused (c_part_of : Ct) (cx_part_of : CtX) : mi__law_refused c_part_of cx_part_of = m__law_refused c_part_of cx_part_of := by rfl
theorem d__law_refused {P : Program} {w : World} {K : Fg} {mg : Str → Option Value} {base : Heap} {f : Addr} {cdv : Value} {A : Around} {outer : List Env} {s : Shared} {H : Hp} {E : XK} {k : Nat} {c_part_of : Ct} {cx_part_of : CtX} (g : Gb w K mg)
    (h_part_of_2 : Def P w K mg base k "part_of" 2 [] (fun xs zs => pick [(false, 0), (false, 1)] xs (zs ++ [.none].map R.val)) c_part_of)
    (xh_part_of_2 : DefX P w K mg base k "part_of" 2 [] (fun xs zs => pick [(false, 0), (false, 1)] xs (zs ++ [.none].map R.val)) cx_part_of)
    (hr : Room k (A.deeper (envOfC "_law_refused" (defScope s__law_refused) s.heap.objs.size f cdv))) (hgu : A.guards = some []) :
    DSs (cxOf CX0 P w K mg base N__law_refused "_law_refused" (defScope s__law_refused) f cdv A outer s H E).nox (defBody s__law_refused) (m__law_refused c_part_of cx_part_of) :=
  have nd := sc__law_refused.nd
  have h : DSs (cxOf CX0 P w K mg base N__law_refused "_law_refused" (defScope s__law_refused) f cdv A outer s H E).nox (defBody s__law_refused) (mi__law_refused c_part_of cx_part_of) :=
  (dss_cons (dst 2 nd (de_non))
  (dss_cons (ds_try rfl rfl rfl nd (by rfl) (by rfl) (test_tup (xs := ["ReadError", "Unknown"]) (.cons (by rfl) g.n_ReadError (by decide) (by rfl) (.cons (by rfl) g.n_Unknown (by decide) (by rfl) (.nil))) (by decide)) (all_cons (XF.cat_ok g.x0) (all_nil)) (fun pn xe => dss_one (ds_expr (de_def h_part_of_2 hr hgu (by rfl) (da_cons (dv 0) (da_cons (dv 1) (da_nil)))))) (fun pn xe => ssx_here (sx_expr (ex_def xh_part_of_2 hr hgu (by rfl) (da_cons (dv 0) (da_cons (dv 1) (da_nil)))))) (fun a pn => pss_one (ps_set (X := Cx.suite _ a pn) (i := 2) nd (by rfl) (by first | exact .inl rfl | exact .inr rfl) (pe_var (i := 3) (by rfl) (by first | exact .inl rfl | exact .inr (.inl rfl) | exact .inr (.inr rfl))))))
  (dss_one (ds_ret (de_and (de_isX1 (y := "Unknown") (all_cons ⟨XF.is1_ok g.x1, XF.kin_ok g.x2⟩ (all_nil)) (by rfl) g.b_isinstance (by rfl) (by rfl) g.n_Unknown (dv 2)) (de_and (de_isXB (T := "KeyError") (all_cons ⟨XF.isB_ok g.x3, XF.kin_ok g.x2⟩ (all_nil)) (by rfl) g.b_isinstance (by rfl) (by rfl) g.b_KeyError (by rfl) (dv 2)) (de_one (dec (opd_eq (u64 hr)) (de_callB (calld_repr hgu (u66 hr)) (by rfl) g.b_repr (by rfl) (da_cons (de_xfd (all_cons (XF.fld_ok g.x4) (all_nil)) (dv 2)) (da_nil))) (de_callB (calld_repr hgu (u66 hr)) (by rfl) g.b_repr (by rfl) (da_cons (dv 1) (da_nil)))))))))))
  me__law_refused c_part_of cx_part_of ▸ h
def N_law : List Str := ["_law_script", "_law_pen", "_law_turn", "_law_some", "_law_kept", "_law_due", "_law_starts", "_law_title", "_law_reader_here", "_law_told", "_law_pair", "_law_free", "_law_part", "_law_titles", "_law_word"]
theorem sc_law : FnScope N_law ["_law_script"] (defScope s_law) := ⟨rfl, rfl, rfl, by decide +kernel, rfl, by decide +kernel, by decide +kernel⟩
def m_law_0 (c__law_book : Ct) (c__law_draw : Ct) (c__law_parts : Ct) (c_parts_of : Ct) (c_part_of : Ct) (c_is_free : Ct) (c__law_refused : Ct) : MS :=
  sSet 5 (mOp oAdd (mVar 5) (mFnK c__law_parts (pick [(false, 0)]) 1 0 (aCons (mVar 8) (aNil)) (aNil)))
def m_law_1 (c__law_book : Ct) (c__law_draw : Ct) (c__law_parts : Ct) (c_parts_of : Ct) (c_part_of : Ct) (c_is_free : Ct) (c__law_refused : Ct) : MS :=
  sSeq (sExpr (mMeth 6 tAppend (aCons (mCall cLen (aCons (mVar 5) (aNil))) (aNil))))
  (m_law_0 c__law_book c__law_draw c__law_parts c_parts_of c_part_of c_is_free c__law_refused)
def m_law_2 (c__law_book : Ct) (c__law_draw : Ct) (c__law_parts : Ct) (c_parts_of : Ct) (c_part_of : Ct) (c_is_free : Ct) (c__law_refused : Ct) : MS :=
  sIf (bAnd (bNot (bAnd (mTru (mIsI "str" (mVar 14))) (mTest (mOp oIn (mVar 14) (mVar 13))))) (bNot (mTru (mFnK c__law_refused (pick [(false, 0), (false, 1)]) 2 0 (aCons (mVar 3) (aCons (mVar 14) (aNil))) (aNil))))) (sRet (mVal (.bool false))) (sNext)
def m_law_3 (c__law_book : Ct) (c__law_draw : Ct) (c__law_parts : Ct) (c_parts_of : Ct) (c_part_of : Ct) (c_is_free : Ct) (c__law_refused : Ct) : MS :=
  sFor (iOf (mTup (aCons (mVal (.str ("" : Str))) (aCons (mVal (.str ("A" : Str))) (aCons (mVal (.str ("zz" : Str))) (aCons (mVal (.str ("zzz" : Str))) (aCons (mOp oAdd (mOp oIxA (mVar 13) (mVal (.int 0))) (mVal (.str ("q" : Str)))) (aCons (mSl (mOp oIxA (mVar 13) (mNeg (mVal (.int 1)))) (oSome (mVal (.int 1))) (oNone)) (aCons (mVal (.int 0)) (aCons (mVal (.bool true)) (aCons (mTup (aNil)) (aCons (mLst (aNil)) (aCons (mDNew) (aCons (mTup (aCons (mVal (.str ("a" : Str))) (aNil))) (aNil))))))))))))))) (gNm 14)
  (m_law_2 c__law_book c__law_draw c__law_parts c_parts_of c_part_of c_is_free c__law_refused)
def m_law_4 (c__law_book : Ct) (c__law_draw : Ct) (c__law_parts : Ct) (c_parts_of : Ct) (c_part_of : Ct) (c_is_free : Ct) (c__law_refused : Ct) : MS :=
  sSeq (sSet 13 (mLc [10] (iOf (mVar 3)) (gNm 10) (bYes) (mOp oIxA (mVar 10) (mVal (.int 0)))))
  (m_law_3 c__law_book c__law_draw c__law_parts c_parts_of c_part_of c_is_free c__law_refused)
def m_law_5 (c__law_book : Ct) (c__law_draw : Ct) (c__law_parts : Ct) (c_parts_of : Ct) (c_part_of : Ct) (c_is_free : Ct) (c__law_refused : Ct) : MS :=
  sSeq (sIf (bOr (mTest (mOp oNe (mCall cRepr (aCons (mFnK c_is_free (pick [(false, 0)]) 1 0 (aCons (mVar 3) (aNil)) (aNil)) (aNil))) (mCall cRepr (aCons (mVar 11) (aNil))))) (bOr (mTest (mOp oNe (mCall cRepr (aCons (mFnK c_is_free (pick [(true, 0)]) 0 1 (aNil) (aCons (mVar 3) (aNil))) (aNil))) (mCall cRepr (aCons (mVar 11) (aNil))))) (mTest (mOp oNe (mCall cRepr (aCons (mVar 3) (aNil))) (mVar 4))))) (sRet (mVal (.bool false))) (sNext))
  (m_law_4 c__law_book c__law_draw c__law_parts c_parts_of c_part_of c_is_free c__law_refused)
def m_law_6 (c__law_book : Ct) (c__law_draw : Ct) (c__law_parts : Ct) (c_parts_of : Ct) (c_part_of : Ct) (c_is_free : Ct) (c__law_refused : Ct) : MS :=
  sSeq (sSet 11 (mOp oEqU (mLc [12] (iOf (mVar 5)) (gNm 12) (mTest (mOp oEq (mOp oIxA (mVar 12) (mVal (.int 0))) (mVal (.str ("again" : Str))))) (mVar 12)) (mLst (aNil))))
  (m_law_5 c__law_book c__law_draw c__law_parts c_parts_of c_part_of c_is_free c__law_refused)
def m_law_7 (c__law_book : Ct) (c__law_draw : Ct) (c__law_parts : Ct) (c_parts_of : Ct) (c_part_of : Ct) (c_is_free : Ct) (c__law_refused : Ct) : MS :=
  sSeq (sIf (bOr (mTest (mOp oNe (mFnK c_part_of (fun xs zs => pick [(false, 0), (true, 0)] xs (zs ++ [.none].map R.val)) 1 0 (aCons (mVar 3) (aNil)) (aNil)) (mVal (.int 0)))) (mTest (mOp oNe (mFnK c_part_of (fun xs zs => pick [(false, 0), (false, 1)] xs (zs ++ [.none].map R.val)) 2 0 (aCons (mVar 3) (aCons (mVal .none) (aNil))) (aNil)) (mVal (.int 0))))) (sRet (mVal (.bool false))) (sNext))
  (m_law_6 c__law_book c__law_draw c__law_parts c_parts_of c_part_of c_is_free c__law_refused)
def m_law_8 (c__law_book : Ct) (c__law_draw : Ct) (c__law_parts : Ct) (c_parts_of : Ct) (c_part_of : Ct) (c_is_free : Ct) (c__law_refused : Ct) : MS :=
  sSeq (sIf (mTest (mOp oNe (mLc [10] (iOf (mVar 3)) (gNm 10) (bYes) (mFnK c_part_of (fun xs zs => pick [(true, 1), (true, 0)] xs (zs ++ [.none].map R.val)) 0 2 (aNil) (aCons (mOp oIxA (mVar 10) (mVal (.int 0))) (aCons (mVar 3) (aNil))))) (mVar 6))) (sRet (mVal (.bool false))) (sNext))
  (m_law_7 c__law_book c__law_draw c__law_parts c_parts_of c_part_of c_is_free c__law_refused)
def m_law_9 (c__law_book : Ct) (c__law_draw : Ct) (c__law_parts : Ct) (c_parts_of : Ct) (c_part_of : Ct) (c_is_free : Ct) (c__law_refused : Ct) : MS :=
  sSeq (sIf (bOr (mTest (mOp oNe (mCall cRepr (aCons (mFnK c_parts_of (pick [(true, 0)]) 0 1 (aNil) (aCons (mVar 3) (aNil))) (aNil))) (mCall cRepr (aCons (mVar 5) (aNil))))) (mTest (mOp oNe (mLc [10] (iOf (mVar 3)) (gNm 10) (bYes) (mFnK c_part_of (fun xs zs => pick [(false, 0), (false, 1)] xs (zs ++ [.none].map R.val)) 2 0 (aCons (mVar 3) (aCons (mOp oIxA (mVar 10) (mVal (.int 0))) (aNil))) (aNil))) (mVar 6)))) (sRet (mVal (.bool false))) (sNext))
  (m_law_8 c__law_book c__law_draw c__law_parts c_parts_of c_part_of c_is_free c__law_refused)
def m_law_10 (c__law_book : Ct) (c__law_draw : Ct) (c__law_parts : Ct) (c_parts_of : Ct) (c_part_of : Ct) (c_is_free : Ct) (c__law_refused : Ct) : MS :=
  sSeq (sExpr (mMeth 9 tClear aNil))
  (m_law_9 c__law_book c__law_draw c__law_parts c_parts_of c_part_of c_is_free c__law_refused)
def m_law_11 (c__law_book : Ct) (c__law_draw : Ct) (c__law_parts : Ct) (c_parts_of : Ct) (c_part_of : Ct) (c_is_free : Ct) (c__law_refused : Ct) : MS :=
  sSeq (sIf (mTest (mOp oNe (mCall cRepr (aCons (mVar 9) (aNil))) (mCall cRepr (aCons (mVar 5) (aNil))))) (sRet (mVal (.bool false))) (sNext))
  (m_law_10 c__law_book c__law_draw c__law_parts c_parts_of c_part_of c_is_free c__law_refused)
def m_law_12 (c__law_book : Ct) (c__law_draw : Ct) (c__law_parts : Ct) (c_parts_of : Ct) (c_part_of : Ct) (c_is_free : Ct) (c__law_refused : Ct) : MS :=
  sSeq (sSet 9 (mFnK c_parts_of (pick [(false, 0)]) 1 0 (aCons (mVar 3) (aNil)) (aNil)))
  (m_law_11 c__law_book c__law_draw c__law_parts c_parts_of c_part_of c_is_free c__law_refused)
def m_law_13 (c__law_book : Ct) (c__law_draw : Ct) (c__law_parts : Ct) (c_parts_of : Ct) (c_part_of : Ct) (c_is_free : Ct) (c__law_refused : Ct) : MS :=
  sSeq (sFor (iOf (mVar 3)) (gTp 2 (gCs (gNm 7) (gCs (gNm 8) (gNl))))
  (m_law_1 c__law_book c__law_draw c__law_parts c_parts_of c_part_of c_is_free c__law_refused))
  (m_law_12 c__law_book c__law_draw c__law_parts c_parts_of c_part_of c_is_free c__law_refused)
def m_law_14 (c__law_book : Ct) (c__law_draw : Ct) (c__law_parts : Ct) (c_parts_of : Ct) (c_part_of : Ct) (c_is_free : Ct) (c__law_refused : Ct) : MS :=
  sSeq (sSet 6 (mLst (aNil)))
  (m_law_13 c__law_book c__law_draw c__law_parts c_parts_of c_part_of c_is_free c__law_refused)
def m_law_15 (c__law_book : Ct) (c__law_draw : Ct) (c__law_parts : Ct) (c_parts_of : Ct) (c_part_of : Ct) (c_is_free : Ct) (c__law_refused : Ct) : MS :=
  sSeq (sSet 5 (mLst (aNil)))
  (m_law_14 c__law_book c__law_draw c__law_parts c_parts_of c_part_of c_is_free c__law_refused)
def m_law_16 (c__law_book : Ct) (c__law_draw : Ct) (c__law_parts : Ct) (c_parts_of : Ct) (c_part_of : Ct) (c_is_free : Ct) (c__law_refused : Ct) : MS :=
  sSeq (sSet 4 (mCall cRepr (aCons (mVar 3) (aNil))))
  (m_law_15 c__law_book c__law_draw c__law_parts c_parts_of c_part_of c_is_free c__law_refused)
def m_law_17 (c__law_book : Ct) (c__law_draw : Ct) (c__law_parts : Ct) (c_parts_of : Ct) (c_part_of : Ct) (c_is_free : Ct) (c__law_refused : Ct) : MS :=
  sSeq (sSet 3 (mFnK c__law_book (pick [(false, 0), (false, 1)]) 2 0 (aCons (mVar 1) (aCons (mOp oIxA (mLst (aCons (mVal (.int 80)) (aCons (mVal (.int 20)) (aCons (mVal (.int 9)) (aNil))))) (mFnK c__law_draw (pick [(false, 0), (false, 1)]) 2 0 (aCons (mVar 1) (aCons (mVal (.int 3)) (aNil))) (aNil))) (aNil))) (aNil)))
  (m_law_16 c__law_book c__law_draw c__law_parts c_parts_of c_part_of c_is_free c__law_refused)
def m_law_18 (c__law_book : Ct) (c__law_draw : Ct) (c__law_parts : Ct) (c_parts_of : Ct) (c_part_of : Ct) (c_is_free : Ct) (c__law_refused : Ct) : MS :=
  sRet (mVal (.bool true))
def m_law_19 (c__law_book : Ct) (c__law_draw : Ct) (c__law_parts : Ct) (c_parts_of : Ct) (c_part_of : Ct) (c_is_free : Ct) (c__law_refused : Ct) : MS :=
  sSeq (sFor (iRange1 (mVal (.int 6))) (gNm 2)
  (m_law_17 c__law_book c__law_draw c__law_parts c_parts_of c_part_of c_is_free c__law_refused))
  (m_law_18 c__law_book c__law_draw c__law_parts c_parts_of c_part_of c_is_free c__law_refused)
def m_law_20 (c__law_book : Ct) (c__law_draw : Ct) (c__law_parts : Ct) (c_parts_of : Ct) (c_part_of : Ct) (c_is_free : Ct) (c__law_refused : Ct) : MS :=
  sSeq (sSet 1 (mLst (aCons (mCall cListU (aCons (mSlS (mVar 0) (oNone) (oSome (mVal (.int 63)))) (aNil))) (aCons (mVal (.int 0)) (aCons (mVal (.int 0)) (aNil))))))
  (m_law_19 c__law_book c__law_draw c__law_parts c_parts_of c_part_of c_is_free c__law_refused)
def m_law (c__law_book : Ct) (c__law_draw : Ct) (c__law_parts : Ct) (c_parts_of : Ct) (c_part_of : Ct) (c_is_free : Ct) (c__law_refused : Ct) : MS := m_law_20 c__law_book c__law_draw c__law_parts c_parts_of c_part_of c_is_free c__law_refused
def mi_law (c__law_book : Ct) (c__law_draw : Ct) (c__law_parts : Ct) (c_parts_of : Ct) (c_part_of : Ct) (c_is_free : Ct) (c__law_refused : Ct) : MS :=
  sSeq (sSet 1 (mLst (aCons (mCall cListU (aCons (mSlS (mVar 0) (oNone) (oSome (mVal (.int 63)))) (aNil))) (aCons (mVal (.int 0)) (aCons (mVal (.int 0)) (aNil))))))
  (sSeq (sFor (iRange1 (mVal (.int 6))) (gNm 2)
  (sSeq (sSet 3 (mFnK c__law_book (pick [(false, 0), (false, 1)]) 2 0 (aCons (mVar 1) (aCons (mOp oIxA (mLst (aCons (mVal (.int 80)) (aCons (mVal (.int 20)) (aCons (mVal (.int 9)) (aNil))))) (mFnK c__law_draw (pick [(false, 0), (false, 1)]) 2 0 (aCons (mVar 1) (aCons (mVal (.int 3)) (aNil))) (aNil))) (aNil))) (aNil)))
  (sSeq (sSet 4 (mCall cRepr (aCons (mVar 3) (aNil))))
  (sSeq (sSet 5 (mLst (aNil)))
  (sSeq (sSet 6 (mLst (aNil)))
  (sSeq (sFor (iOf (mVar 3)) (gTp 2 (gCs (gNm 7) (gCs (gNm 8) (gNl))))
  (sSeq (sExpr (mMeth 6 tAppend (aCons (mCall cLen (aCons (mVar 5) (aNil))) (aNil))))
  (sSet 5 (mOp oAdd (mVar 5) (mFnK c__law_parts (pick [(false, 0)]) 1 0 (aCons (mVar 8) (aNil)) (aNil))))))
  (sSeq (sSet 9 (mFnK c_parts_of (pick [(false, 0)]) 1 0 (aCons (mVar 3) (aNil)) (aNil)))
  (sSeq (sIf (mTest (mOp oNe (mCall cRepr (aCons (mVar 9) (aNil))) (mCall cRepr (aCons (mVar 5) (aNil))))) (sRet (mVal (.bool false))) (sNext))
  (sSeq (sExpr (mMeth 9 tClear aNil))
  (sSeq (sIf (bOr (mTest (mOp oNe (mCall cRepr (aCons (mFnK c_parts_of (pick [(true, 0)]) 0 1 (aNil) (aCons (mVar 3) (aNil))) (aNil))) (mCall cRepr (aCons (mVar 5) (aNil))))) (mTest (mOp oNe (mLc [10] (iOf (mVar 3)) (gNm 10) (bYes) (mFnK c_part_of (fun xs zs => pick [(false, 0), (false, 1)] xs (zs ++ [.none].map R.val)) 2 0 (aCons (mVar 3) (aCons (mOp oIxA (mVar 10) (mVal (.int 0))) (aNil))) (aNil))) (mVar 6)))) (sRet (mVal (.bool false))) (sNext))
  (sSeq (sIf (mTest (mOp oNe (mLc [10] (iOf (mVar 3)) (gNm 10) (bYes) (mFnK c_part_of (fun xs zs => pick [(true, 1), (true, 0)] xs (zs ++ [.none].map R.val)) 0 2 (aNil) (aCons (mOp oIxA (mVar 10) (mVal (.int 0))) (aCons (mVar 3) (aNil))))) (mVar 6))) (sRet (mVal (.bool false))) (sNext))
  (sSeq (sIf (bOr (mTest (mOp oNe (mFnK c_part_of (fun xs zs => pick [(false, 0), (true, 0)] xs (zs ++ [.none].map R.val)) 1 0 (aCons (mVar 3) (aNil)) (aNil)) (mVal (.int 0)))) (mTest (mOp oNe (mFnK c_part_of (fun xs zs => pick [(false, 0), (false, 1)] xs (zs ++ [.none].map R.val)) 2 0 (aCons (mVar 3) (aCons (mVal .none) (aNil))) (aNil)) (mVal (.int 0))))) (sRet (mVal (.bool false))) (sNext))
  (sSeq (sSet 11 (mOp oEqU (mLc [12] (iOf (mVar 5)) (gNm 12) (mTest (mOp oEq (mOp oIxA (mVar 12) (mVal (.int 0))) (mVal (.str ("again" : Str))))) (mVar 12)) (mLst (aNil))))
  (sSeq (sIf (bOr (mTest (mOp oNe (mCall cRepr (aCons (mFnK c_is_free (pick [(false, 0)]) 1 0 (aCons (mVar 3) (aNil)) (aNil)) (aNil))) (mCall cRepr (aCons (mVar 11) (aNil))))) (bOr (mTest (mOp oNe (mCall cRepr (aCons (mFnK c_is_free (pick [(true, 0)]) 0 1 (aNil) (aCons (mVar 3) (aNil))) (aNil))) (mCall cRepr (aCons (mVar 11) (aNil))))) (mTest (mOp oNe (mCall cRepr (aCons (mVar 3) (aNil))) (mVar 4))))) (sRet (mVal (.bool false))) (sNext))
  (sSeq (sSet 13 (mLc [10] (iOf (mVar 3)) (gNm 10) (bYes) (mOp oIxA (mVar 10) (mVal (.int 0)))))
  (sFor (iOf (mTup (aCons (mVal (.str ("" : Str))) (aCons (mVal (.str ("A" : Str))) (aCons (mVal (.str ("zz" : Str))) (aCons (mVal (.str ("zzz" : Str))) (aCons (mOp oAdd (mOp oIxA (mVar 13) (mVal (.int 0))) (mVal (.str ("q" : Str)))) (aCons (mSl (mOp oIxA (mVar 13) (mNeg (mVal (.int 1)))) (oSome (mVal (.int 1))) (oNone)) (aCons (mVal (.int 0)) (aCons (mVal (.bool true)) (aCons (mTup (aNil)) (aCons (mLst (aNil)) (aCons (mDNew) (aCons (mTup (aCons (mVal (.str ("a" : Str))) (aNil))) (aNil))))))))))))))) (gNm 14)
  (sIf (bAnd (bNot (bAnd (mTru (mIsI "str" (mVar 14))) (mTest (mOp oIn (mVar 14) (mVar 13))))) (bNot (mTru (mFnK c__law_refused (pick [(false, 0), (false, 1)]) 2 0 (aCons (mVar 3) (aCons (mVar 14) (aNil))) (aNil))))) (sRet (mVal (.bool false))) (sNext))))))))))))))))))
  (sRet (mVal (.bool true))))
theorem me_law (c__law_book : Ct) (c__law_draw : Ct) (c__law_parts : Ct) (c_parts_of : Ct) (c_part_of : Ct) (c_is_free : Ct) (c__law_refused : Ct) : mi_law c__law_book c__law_draw c__law_parts c_parts_of c_part_of c_is_free c__law_refused = m_law c__law_book c__law_draw c__law_parts c_parts_of c_part_of c_is_free c__law_refused := by rfl
theorem d_law {P : Program} {w : World} {K : Fg} {mg : Str → Option Value} {base : Heap} {f : Addr} {cdv : Value} {A : Around} {outer : List Env} {s : Shared} {H : Hp} {E : XK} {k : Nat} {c__law_book c__law_draw c__law_parts c_parts_of c_part_of c_is_free c__law_refused : Ct} (g : Gb w K mg)
    (h__law_book_2 : Def P w K mg base k "_law_book" 2 [] (pick [(false, 0), (false, 1)]) c__law_book)
    (h__law_draw_2 : Def P w K mg base k "_law_draw" 2 [] (pick [(false, 0), (false, 1)]) c__law_draw)
    (h__law_parts_1 : Def P w K mg base k "_law_parts" 1 [] (pick [(false, 0)]) c__law_parts)
    (h_parts_of_1 : Def P w K mg base k "parts_of" 1 [] (pick [(false, 0)]) c_parts_of)
    (h_parts_of_0_book : Def P w K mg base k "parts_of" 0 ["book"] (pick [(true, 0)]) c_parts_of)
    (h_part_of_2 : Def P w K mg base k "part_of" 2 [] (fun xs zs => pick [(false, 0), (false, 1)] xs (zs ++ [.none].map R.val)) c_part_of)
    (h_part_of_0_name_book : Def P w K mg base k "part_of" 0 ["name", "book"] (fun xs zs => pick [(true, 1), (true, 0)] xs (zs ++ [.none].map R.val)) c_part_of)
    (h_part_of_1 : Def P w K mg base k "part_of" 1 [] (fun xs zs => pick [(false, 0), (true, 0)] xs (zs ++ [.none].map R.val)) c_part_of)
    (h_is_free_1 : Def P w K mg base k "is_free" 1 [] (pick [(false, 0)]) c_is_free)
    (h_is_free_0_book : Def P w K mg base k "is_free" 0 ["book"] (pick [(true, 0)]) c_is_free)
    (h__law_refused_2 : Def P w K mg base k "_law_refused" 2 [] (pick [(false, 0), (false, 1)]) c__law_refused)
    (hr : Room k (A.deeper (envOfC "law" (defScope s_law) s.heap.objs.size f cdv))) (hgu : A.guards = some []) :
    DSs (cxOf CX0 P w K mg base N_law "law" (defScope s_law) f cdv A outer s H E).nox (defBody s_law) (m_law c__law_book c__law_draw c__law_parts c_parts_of c_part_of c_is_free c__law_refused) :=
  have nd := sc_law.nd
  have h : DSs (cxOf CX0 P w K mg base N_law "law" (defScope s_law) f cdv A outer s H E).nox (defBody s_law) (mi_law c__law_book c__law_draw c__law_parts c_parts_of c_part_of c_is_free c__law_refused) :=
  (dss_cons (dst 1 nd (de_lst (da_cons (de_callTy (calld_listU (by rfl)) (by rfl) g.b_list (by rfl) (da_cons (de_sliceS (dv 0) (do_none) (do_some (de_int))) (da_nil))) (da_cons (de_int) (da_cons (de_int) (da_nil))))))
  (dss_cons (ds_for (vs := [2]) PassesOwn.never (by rfl) (di_range1 (by rfl) g.b_range (de_int)) (dgn 2 nd)
  (dss_cons (dst 3 nd (de_def h__law_book_2 hr hgu (by rfl) (da_cons (dv 1) (da_cons (de_ixA (u1 hr) (de_lst (da_cons (de_int) (da_cons (de_int) (da_cons (de_int) (da_nil))))) (de_def h__law_draw_2 hr hgu (by rfl) (da_cons (dv 1) (da_cons (de_int) (da_nil))))) (da_nil)))))
  (dss_cons (dst 4 nd (de_callB (calld_repr hgu (u66 hr)) (by rfl) g.b_repr (by rfl) (da_cons (dv 3) (da_nil))))
  (dss_cons (dst 5 nd (de_lst (da_nil)))
  (dss_cons (dst 6 nd (de_lst (da_nil)))
  (dss_cons (ds_for (vs := [7, 8]) PassesOwn.never (by rfl) (di_of (dv 3)) (dg_tup (by rfl) (dgs_cons (dgn 7 nd) (dgs_cons (dgn 8 nd) (dgs_nil))))
  (dss_cons (ds_expr (de_meth (i := 6) met_append PySem.F.slot_list_append PySem.F.type_list_append (by rfl) (by first | exact .inl rfl | exact .inr (.inl rfl) | exact .inr (.inr rfl)) (da_cons (de_callB calld_len (by rfl) g.b_len (by rfl) (da_cons (dv 5) (da_nil))) (da_nil))))
  (dss_one (dst 5 nd (de_op opd_add (dv 5) (de_def h__law_parts_1 hr hgu (by rfl) (da_cons (dv 8) (da_nil))))))))
  (dss_cons (dst 9 nd (de_def h_parts_of_1 hr hgu (by rfl) (da_cons (dv 3) (da_nil))))
  (dss_cons (ds_if (dtc (opd_ne (u64 hr)) (de_callB (calld_repr hgu (u66 hr)) (by rfl) g.b_repr (by rfl) (da_cons (dv 9) (da_nil))) (de_callB (calld_repr hgu (u66 hr)) (by rfl) g.b_repr (by rfl) (da_cons (dv 5) (da_nil)))) (dss_one (ds_ret (de_bl))) (dss_nil))
  (dss_cons (ds_expr (de_meth0 (i := 9) met_clear PySem.F.slot_list_clear PySem.F.type_list_clear (by rfl) (by first | exact .inl rfl | exact .inr (.inl rfl) | exact .inr (.inr rfl))))
  (dss_cons (ds_if (dt_w (dw_or (dtc (opd_ne (u64 hr)) (de_callB (calld_repr hgu (u66 hr)) (by rfl) g.b_repr (by rfl) (da_cons (de_defK0 (ks := ["book"]) h_parts_of_0_book hr hgu (by rfl) (dk_cons (dv 3) (dk_nil))) (da_nil))) (de_callB (calld_repr hgu (u66 hr)) (by rfl) g.b_repr (by rfl) (da_cons (dv 5) (da_nil)))) (dw_or1 (dtc (opd_ne (u64 hr)) (de_lc (own := [(("_law_pair" : Str), 10)]) (by rfl) nd (di_of (dv 3)) (blkOk_by (N := N_law) (sc := defScope s_law) (own := [(("_law_pair" : Str), 10)]) (by decide +kernel)) (fun _ _ _ _ _ => dgn 10 nd) (fun _ _ _ _ _ => dts_nil) (fun _ _ _ _ _ => de_def h_part_of_2 hr hgu (by rfl) (da_cons (dv 3) (da_cons (de_ixA (u1 hr) (dv 10) (de_int)) (da_nil))))) (dv 6))))) (dss_one (ds_ret (de_bl))) (dss_nil))
  (dss_cons (ds_if (dtc (opd_ne (u64 hr)) (de_lc (own := [(("_law_pair" : Str), 10)]) (by rfl) nd (di_of (dv 3)) (blkOk_by (N := N_law) (sc := defScope s_law) (own := [(("_law_pair" : Str), 10)]) (by decide +kernel)) (fun _ _ _ _ _ => dgn 10 nd) (fun _ _ _ _ _ => dts_nil) (fun _ _ _ _ _ => de_defK0 (ks := ["name", "book"]) h_part_of_0_name_book hr hgu (by rfl) (dk_cons (de_ixA (u1 hr) (dv 10) (de_int)) (dk_cons (dv 3) (dk_nil))))) (dv 6)) (dss_one (ds_ret (de_bl))) (dss_nil))
  (dss_cons (ds_if (dt_w (dw_or (dtc (opd_ne (u64 hr)) (de_def h_part_of_1 hr hgu (by rfl) (da_cons (dv 3) (da_nil))) (de_int)) (dw_or1 (dtc (opd_ne (u64 hr)) (de_def h_part_of_2 hr hgu (by rfl) (da_cons (dv 3) (da_cons (de_non) (da_nil)))) (de_int))))) (dss_one (ds_ret (de_bl))) (dss_nil))
  (dss_cons (dst 11 nd (dec (opd_eqU (u64 hr)) (de_lc (own := [(("_law_part" : Str), 12)]) (by rfl) nd (di_of (dv 5)) (blkOk_by (N := N_law) (sc := defScope s_law) (own := [(("_law_part" : Str), 12)]) (by decide +kernel)) (fun _ _ _ _ _ => dgn 12 nd) (fun _ _ _ _ _ => dts_one (dtc (opd_eq (u64 hr)) (de_ixA (u1 hr) (dv 12) (de_int)) (de_str))) (fun _ _ _ _ _ => dv 12)) (de_lst (da_nil))))
  (dss_cons (ds_if (dt_w (dw_or (dtc (opd_ne (u64 hr)) (de_callB (calld_repr hgu (u66 hr)) (by rfl) g.b_repr (by rfl) (da_cons (de_def h_is_free_1 hr hgu (by rfl) (da_cons (dv 3) (da_nil))) (da_nil))) (de_callB (calld_repr hgu (u66 hr)) (by rfl) g.b_repr (by rfl) (da_cons (dv 11) (da_nil)))) (dw_or (dtc (opd_ne (u64 hr)) (de_callB (calld_repr hgu (u66 hr)) (by rfl) g.b_repr (by rfl) (da_cons (de_defK0 (ks := ["book"]) h_is_free_0_book hr hgu (by rfl) (dk_cons (dv 3) (dk_nil))) (da_nil))) (de_callB (calld_repr hgu (u66 hr)) (by rfl) g.b_repr (by rfl) (da_cons (dv 11) (da_nil)))) (dw_or1 (dtc (opd_ne (u64 hr)) (de_callB (calld_repr hgu (u66 hr)) (by rfl) g.b_repr (by rfl) (da_cons (dv 3) (da_nil))) (dv 4)))))) (dss_one (ds_ret (de_bl))) (dss_nil))
  (dss_cons (ds_setLc (i := 13) (own := [(("_law_pair" : Str), 10)]) (by rfl) nd (by rfl) (by rfl) (by rfl) (di_of (dv 3)) (blkOk_by (N := N_law) (sc := defScope s_law) (own := [(("_law_pair" : Str), 10)]) (by decide +kernel)) (fun _ _ _ _ _ => dgn 10 nd) (fun _ _ _ _ _ => dts_nil) (fun _ _ _ _ _ => de_ixA (u1 hr) (dv 10) (de_int)))
  (dss_one (ds_for (vs := [14]) PassesOwn.never (by rfl) (di_of (de_tup (da_cons (de_str) (da_cons (de_str) (da_cons (de_str) (da_cons (de_str) (da_cons (de_op opd_add (de_ixA (u1 hr) (dv 13) (de_int)) (de_str)) (da_cons (de_slice (de_ixA (u1 hr) (dv 13) (de_neg (de_int))) (do_some (de_int)) (do_none)) (da_cons (de_int) (da_cons (de_bl) (da_cons (de_tup (da_nil)) (da_cons (de_lst (da_nil)) (da_cons (de_dnew) (da_cons (de_tup (da_cons (de_str) (da_nil))) (da_nil))))))))))))))) (dgn 14 nd)
  (dss_one (ds_if (dt_w (dw_and (dt_not (dt_w (dw_and (dt_of (de_isinst (T := "str") kit_str (by rfl) g.b_isinstance (by rfl) (by rfl) g.b_str (by rfl) (dv 14))) (dw_and1 (dtc (opd_in (u65 hr)) (dv 14) (dv 13)))))) (dw_and1 (dt_not (dt_of (de_def h__law_refused_2 hr hgu (by rfl) (da_cons (dv 3) (da_cons (dv 14) (da_nil))))))))) (dss_one (ds_ret (de_bl))) (dss_nil))))))))))))))))))))
  (dss_one (ds_ret (de_bl)))))
  me_law c__law_book c__law_draw c__law_parts c_parts_of c_part_of c_is_free c__law_refused ▸ h
def N_Unknown___init__ : List Str := ["self", "name"]
theorem sc_Unknown___init__ : FnScope N_Unknown___init__ ["self", "name"] (defScope s_Unknown___init__) := ⟨rfl, rfl, rfl, by decide +kernel, rfl, by decide +kernel, by decide +kernel⟩
theorem k_Unknown {P : Program} {w : World} {K : Fg} {mg : Str → Option Value} {base : Heap} {fd : FuncData} (g : Gb w K mg) (F : FunD K "__init__" "Unknown.__init__" (defArgs s_Unknown___init__) (defBody s_Unknown___init__) (defScope s_Unknown___init__) [] [] (He.ma K (He.ga K "Unknown") "__init__") fd) (hb : Binds K fd ["self", "name"] []) : XMk1 P w K mg base "Unknown" "name" :=
  XF.mk1_okK (tx := ("unknown" : Str)) g.x5 g.n_Unknown F sc_Unknown___init__ (fun cdv A outer s H E => pss_cons (ps_expr (pe_xinit xb_KE (XF.baseF_ok g.x6 g.b_KeyError) (by rfl) (pa_cons (pe_var (i := 0) (by rfl) (by first | exact .inl rfl | exact .inr (.inl rfl) | exact .inr (.inr rfl))) (pa_cons pe_str pa_nil)))) (pss_one (ps_xst xb_KE (pe_var (i := 0) (by rfl) (by first | exact .inl rfl | exact .inr (.inl rfl) | exact .inr (.inr rfl))) (pe_var (i := 1) (by rfl) (by first | exact .inl rfl | exact .inr (.inl rfl) | exact .inr (.inr rfl)))))) hb
end L06
namespace L06
open PySem L2 PyProof.Rows DL
local macro_rules | `(tactic| walk_at "G") => `(tactic| ((conv => whnf); try dsimp only [DL.MB.toD, DL.cellOf]))
local macro_rules | `(tactic| walk_at "O") => `(tactic| first | assumption | omega | (refine ⟨?_, ?_⟩ <;> first | assumption | omega) | (simp only [DL.app_len]; omega) | (simp only [List.length_append, List.length_cons, List.length_nil, List.length_map]; omega))
local macro_rules | `(tactic| walk_at "P") => `(tactic| first | omega | (simp only [List.length_map]; omega))
local macro_rules | `(tactic| walk_at "R") => `(tactic| (walk_at "G"; repeat ((first | (apply DL.Rq.mk; (· walk_at "O")) | (apply DL.on_i; (· assumption)) | (apply DL.rqB.mk; (· exact DL.okR_of (by walk_at "P") (by walk_at "P"))) | (apply DL.rqB.mk; (· exact DL.okR2_of (by walk_at "P") (by walk_at "P") (by walk_at "P") (by walk_at "P")))); walk_at "G")))
local macro_rules | `(tactic| walk_at "N") => `(tactic| (walk_at "R"; repeat ((first | (refine And.intro rfl ?_) | (refine And.intro (of_decide_eq_true rfl) ?_) | (refine And.intro (by decide) ?_)); walk_at "R")))
def PenOk (b : Nat) (pen : List D) : Prop := ∃ (gone rest : Int) (cells : List Int), pen = [.list (cells.map .int), .int gone, .int rest] ∧ 0 ≤ gone ∧ gone + b ≤ 2 ^ 40 ∧ 0 ≤ rest ∧ cells.length ≤ 63
theorem PenOk.mono {a b : Nat} {pen : List D} (h : PenOk a pen) (q : b ≤ a) : PenOk b pen := by
  obtain ⟨g, r, c, e, h1, h2, h3⟩ := h
  exact ⟨g, r, c, e, h1, by omega, h3⟩
def c_draw : Ct := fun as P => ∃ pen many b, as = [.box (.L pen), .val (.int many)] ∧ PenOk (b + 1) pen ∧ 0 < many ∧ many < 1073741824 ∧ ∀ v pen', 0 ≤ v → v < many → PenOk b pen' → P (.val (.int v)) [.box (.L pen'), .val (.int many)]
theorem use_draw {pen : List D} {many : Int} {b : Nat} {P : R → List Ar → Prop} (hp : PenOk (b + 1) pen) (h1 : 0 < many) (h2 : many < 1073741824) (h : ∀ v pen', 0 ≤ v → v < many → PenOk b pen' → P (.val (.int v)) [.box (.L pen'), .val (.int many)]) : Cl c_draw [.box (.L pen), .val (.int many)] P := ⟨pen, many, b, rfl, hp, h1, h2, h⟩
theorem w_draw (as : List Ar) (P : R → List Ar → Prop) (h : c_draw as P) : ctOf 6 m__law_draw as P := by
  obtain ⟨pen, many, b, rfl, ⟨gone, rest, cells, rfl, h0, h1, hr, hc⟩, hm, hm2, hP⟩ := h
  have hb : gone < 2 ^ 40 := by omega
  walk_at "R"
  apply br_d <;> intro hd
  · walk_at "R"
    refine hP _ _ (Int.emod_nonneg _ (by omega)) (Int.emod_lt_of_pos _ hm) ⟨_, _, cells, rfl, h0, by omega, Int.ediv_nonneg hr (by omega), hc⟩
  · have hg : 0 ≤ gone ∧ gone ≤ 2 ^ 40 := by omega
    have hgg := mul_bd (a := 50021 * gone) (b := gone) (A := 2 ^ 60) (B := 2 ^ 40) (by omega) (by omega) (by omega) (by omega)
    have tail : ∀ c : Int, 0 ≤ c % 2147483563 + 50021 * gone * gone + 70009 * gone + 37 ∧ c % 2147483563 + 50021 * gone * gone + 70009 * gone + 37 ≤ 2 ^ 200 := fun c => by
      have := Int.emod_nonneg c (show (2147483563 : Int) ≠ 0 by decide)
      have := Int.emod_lt_of_pos c (show (0 : Int) < 2147483563 by decide)
      omega
    have tail2 : ∀ c : Int, 0 ≤ c % 2147483647 * (5 * gone + 2) + 80039 ∧ c % 2147483647 * (5 * gone + 2) + 80039 ≤ 2 ^ 200 := fun c => by
      have := Int.emod_nonneg c (show (2147483647 : Int) ≠ 0 by decide)
      have := Int.emod_lt_of_pos c (show (0 : Int) < 2147483647 by decide)
      have h1 := mul_bd (a := c % 2147483647) (b := 5 * gone + 2) (A := 2 ^ 31) (B := 2 ^ 43) (by omega) (by omega) (by omega) (by omega)
      omega
    have fin : ∀ x g r : Int, 0 ≤ g → g + b ≤ 2 ^ 40 → 0 ≤ r → P (.val (.int (x % many))) [.box (.L [.list (cells.map .int), .int g, .int r]), .val (.int many)] := fun x g r h1 h2 h3 =>
      hP _ _ (Int.emod_nonneg _ (by omega)) (Int.emod_lt_of_pos _ hm) ⟨_, _, cells, rfl, h1, h2, h3, hc⟩
    walk_at "R"
    cases hcs : cells with
    | nil =>
      subst hcs
      have t1 := tail (80021 * gone + 57)
      have t2 := tail2 (((80021 * gone + 57) % 2147483563 + 50021 * gone * gone + 70009 * gone + 37) ^ (3 : Int).toNat)
      walk_at "R"
      apply br_d <;> intro hd
      · exact absurd (show gone < 0 from hd) (by omega)
      · walk_at "R"
        exact fin _ _ _ (by omega) (by omega) hr
    | cons c0 cs =>
      have hl : 0 < (cells.map PyData.int).length := by rw [hcs]; simp
      obtain ⟨c, hat⟩ := at_ints cells (i := gone % ((cells.map PyData.int).length : Int)) (Int.emod_nonneg _ (by omega)) (by rw [List.length_map] at hl ⊢; exact Int.emod_lt_of_pos _ (by omega))
      have t1 := tail c
      have t2 := tail2 ((c % 2147483563 + 50021 * gone * gone + 70009 * gone + 37) ^ (3 : Int).toNat)
      rw [← hcs]
      have hne : (!(cells.map PyData.int).isEmpty) = true := by rw [hcs]; rfl
      apply brT hne
      walk_at "R"
      apply br_d <;> intro hd
      · walk_at "R"
        apply br_d <;> intro hd
        · walk_at "R"
          exact fin _ _ _ (by omega) (by omega) (Int.ediv_nonneg (by split <;> omega) (by omega))
        · walk_at "R"
          exact fin _ _ _ (by omega) (by omega) hr
      · walk_at "R"
        exact fin _ _ _ (by omega) (by omega) hr
theorem pen_start {ns : List Int} : PenOk 1000000000000 [.list ((cutI ns none (some 63)).map .int), .int 0, .int 0] := by
  refine ⟨0, 0, cutI ns none (some 63), rfl, by omega, by decide, by omega, ?_⟩
  unfold cutI
  rw [HT.sIx_none, List.length_take]
  have : HT.sIx ns.length ns.length (some 63) ≤ 63 := by
    rw [show (some (63 : Int)) = some ((63 : Nat) : Int) from rfl, HT.sIx_nat]; omega
  omega
def c_all : Ct := fun as P => as = [] ∧ P (.val (.str SIGNS)) []
theorem use_all {P : R → List Ar → Prop} (h : P (.val (.str SIGNS)) []) : Cl c_all [] P := ⟨rfl, h⟩
theorem w_all (as : List Ar) (P : R → List Ar → Prop) (h : c_all as P) : ctOf 1 m__law_all as P := by
  obtain ⟨rfl, hP⟩ := h
  have sl := sizeLine_eq
  have e : Str.ofString "\n !\"#$&'()*+,-./0123456789:;<=>?@ABCDEFGHIJKLMNOPQRSTUVWXYZ" ++ Str.ofString "[\\]^_`abcdefghijklmnopqrstuvwxyz{|}~" = SIGNS := by decide +kernel
  have q1 : (Str.ofString "\n !\"#$&'()*+,-./0123456789:;<=>?@ABCDEFGHIJKLMNOPQRSTUVWXYZ").length ≤ 100 := by decide +kernel
  have q2 : (Str.ofString "[\\]^_`abcdefghijklmnopqrstuvwxyz{|}~").length ≤ 100 := by decide +kernel
  walk_at "R"
  rw [e]
  exact hP
theorem sg1_of {x : Str} (h1 : x.cps.toList.isSublist SIGNS.cps.toList = true) (h2 : x.length ≤ 94) (h3 : 1 ≤ x.length) : Sg1 x := ⟨⟨List.isSublist_iff_sublist.mp h1, h2⟩, h3⟩
def c_signs : Ct := fun as P => ∃ pen b, as = [.box (.L pen)] ∧ PenOk (b + 100) pen ∧ ∀ x pen', Sg1 x → PenOk b pen' → P (.val (.str x)) [.box (.L pen')]
theorem use_signs {pen : List D} {b : Nat} {P : R → List Ar → Prop} (hp : PenOk (b + 100) pen) (h : ∀ x pen', Sg1 x → PenOk b pen' → P (.val (.str x)) [.box (.L pen')]) : Cl c_signs [.box (.L pen)] P := ⟨pen, b, rfl, hp, h⟩
theorem w_signs (as : List Ar) (P : R → List Ar → Prop) (h : c_signs as P) : ctOf 6 (m__law_signs c_all c_draw) as P := by
  obtain ⟨pen, b, rfl, hp, hP⟩ := h
  have sl := sizeLine_eq
  have el := SIGNS_len
  walk_at "R"
  refine use_all ?_
  walk_at "R"
  refine use_draw (b := b + 99) hp (by omega) (by omega) fun v1 pen1 a1 a2 hp1 => ?_
  walk_at "R"
  apply br_d <;> intro hd
  · walk_at "R"
    refine use_draw (b := b + 98) hp1 (by omega) (by omega) fun v2 pen2 b1 b2 hp2 => ?_
    obtain ⟨_, hat, x, rfl, hx⟩ := at_all (ds := [PyData.str "a", PyData.str "ab", PyData.str "b", PyData.str "abc", PyData.str "c", PyData.str " ", PyData.str "\n", PyData.str "\n a"]) (v := v2) (fun d => ∃ x, d = .str x ∧ Sg1 x) b1 b2 (by
      intro d hd
      simp only [List.mem_cons, List.not_mem_nil, or_false] at hd
      rcases hd with rfl | rfl | rfl | rfl | rfl | rfl | rfl | rfl <;> exact ⟨_, rfl, sg1_of (by decide +kernel) (by decide) (by decide)⟩)
    walk_at "R"
    exact hP _ _ hx (hp2.mono (by omega))
  · walk_at "R"
    apply br_d <;> intro hd
    · walk_at "R"
      refine use_draw (b := b + 98) hp1 (by omega) (by omega) fun v2 pen2 b1 b2 hp2 => ?_
      walk_at "R"
      refine use_draw (b := b + 97) hp2 (by omega) (by omega) fun v3 pen3 c1 c2 hp3 => ?_
      walk_at "R"
      obtain ⟨i, rfl⟩ := Int.eq_ofNat_of_zero_le b1
      obtain ⟨j, rfl⟩ := Int.eq_ofNat_of_zero_le c1
      have e2 : (i : Int) + 1 + (j : Int) = ((i + 1 + j : Nat) : Int) := by omega
      rw [e2]
      have e3 := cutS_lohi SIGNS i (i + 1 + j)
      have e4 : (cutS SIGNS (some (i : Int)) (some ((i + 1 + j : Nat) : Int))).length = min (j + 1) (95 - i) := by
        rw [slen, e3, List.length_take, List.length_drop, ← slen, el]; omega
      refine hP _ _ ⟨⟨?_, by rw [e4]; omega⟩, by rw [e4]; omega⟩ (hp3.mono (by omega))
      rw [e3]
      exact (List.take_sublist _ _).trans (List.drop_sublist _ _)
    · walk_at "R"
      refine lcc_by (fun ds acc r => ∃ (pen : List D) (l rest : List Nat), r = [some (.box true (.L pen)), some (.val (.str SIGNS)), some (.val (.int v1)), none, none, none] ∧ ds = rest.map (fun c => .str ⟨#[c]⟩) ∧ acc = l.map (fun c => .str ⟨#[c]⟩) ∧ (l ++ rest).Sublist SIGNS.cps.toList ∧ PenOk (b + ds.length) pen) ?_ ?_ ?_
      · refine ⟨pen1, [], SIGNS.cps.toList, rfl, rfl, rfl, List.Sublist.refl _, hp1.mono ?_⟩
        change b + (signsD SIGNS).length ≤ _
        rw [signsD, List.length_map, ← slen, el]; omega
      · rintro d ds acc r ⟨pen2, l, rest, rfl, h1, rfl, h3, h4⟩ ih
        cases rest with
        | nil => cases h1
        | cons c rest =>
        simp only [List.map_cons, List.cons.injEq] at h1
        obtain ⟨rfl, rfl⟩ := h1
        simp only [List.length_cons] at h4
        have hl : (l.map fun c => PyData.str ⟨#[c]⟩).length < sizeLine := by
          have := h3.length_le
          rw [List.length_append, ← slen, el] at this
          rw [List.length_map]; omega
        walk_at "R"
        refine use_draw (b := b + (rest.map fun c => PyData.str ⟨#[c]⟩).length) h4 (by omega) (by omega) fun v pen3 c1 c2 hp3 => ?_
        walk_at "R"
        apply br_d <;> intro hd
        · walk_at "R"
          exact ih _ _ ⟨pen3, l ++ [c], rest, rfl, rfl, by rw [List.map_append]; rfl, by rw [List.append_assoc]; exact h3, hp3⟩
        · walk_at "R"
          exact ih _ _ ⟨pen3, l, rest, rfl, rfl, rfl, (List.Sublist.append_left (List.sublist_cons_self c rest) l).trans h3, hp3⟩
      · rintro acc r ⟨pen2, l, rest, rfl, h1, rfl, h3, h4⟩
        have e0 : rest = [] := by simpa using h1.symm
        subst e0
        rw [List.append_nil] at h3
        have hll : l.length ≤ 95 := by
          have := h3.length_le
          rwa [← slen, el] at this
        have hj := join_ones_fit (l := l) (by omega)
        have hs := strsOf_ones l
        have ej := joinOnes l
        have ejl : (Txt.join (Str.ofString "") (l.map fun c => (⟨#[c]⟩ : Str))).length ≤ 95 := by rw [slen, ej]; exact hll
        walk_at "R"
        by_cases hz : Txt.join (Str.ofString "") (l.map fun c => (⟨#[c]⟩ : Str)) = Str.ofString ""
        · rw [if_pos (decide_eq_true hz)]
          walk_at "R"
          exact hP _ _ (sg1_of (by decide +kernel) (by decide) (by decide)) (h4.mono (by omega))
        · rw [if_neg (by rw [decide_eq_true_eq]; exact hz)]
          walk_at "R"
          have e5 := cutS_hi (Txt.join (Str.ofString "") (l.map fun c => (⟨#[c]⟩ : Str))) 94
          rw [ej] at e5
          have hpos : 0 < l.length := by
            cases l with
            | nil => exact absurd rfl hz
            | cons a l => simp
          refine hP _ _ ⟨⟨?_, ?_⟩, ?_⟩ (h4.mono (by omega))
          · rw [show (some (94 : Int)) = some ((94 : Nat) : Int) from rfl, e5]
            exact (List.take_sublist _ _).trans h3
          · rw [show (some (94 : Int)) = some ((94 : Nat) : Int) from rfl, slen, e5, List.length_take]; omega
          · rw [show (some (94 : Int)) = some ((94 : Nat) : Int) from rfl, slen, e5, List.length_take]; omega
theorem at_inj {α : Type} {ds : List α} (hn : ds.Nodup) {a b : Int} {d : α} (a0 : 0 ≤ a) (b0 : 0 ≤ b) (h1 : atI ds a = some d) (h2 : atI ds b = some d) : a = b := by
  obtain ⟨x, rfl⟩ := Int.eq_ofNat_of_zero_le a0
  obtain ⟨y, rfl⟩ := Int.eq_ofNat_of_zero_le b0
  have e : ∀ z : Nat, atI ds (z : Int) = some d → ds[z]? = some d := fun z h => by
    by_cases q : z < ds.length
    · have := at_nat (List.getElem?_eq_getElem q)
      rw [this] at h
      rw [List.getElem?_eq_getElem q]; exact h
    · exfalso
      unfold atI ixN at h
      rw [if_pos (by omega), if_neg (by omega)] at h; cases h
  have e1 := e x h1
  have e2 := e y h2
  obtain ⟨q1, r1⟩ := List.getElem?_eq_some_iff.mp e1
  obtain ⟨q2, r2⟩ := List.getElem?_eq_some_iff.mp e2
  have := (List.getElem_inj hn).mp (r1.trans r2.symm)
  omega
structure Ks (key : Str → Int → Prop) (names : List Str) : Prop where
  nd : names.Nodup
  ky : ∀ y ∈ names, ∃ j : Int, 0 ≤ j ∧ j < names.length ∧ key y j
theorem Ks.nil (key : Str → Int → Prop) : Ks key [] := ⟨List.nodup_nil, fun y h => (nomatch h)⟩
theorem Ks.add {key : Str → Int → Prop} {names : List Str} {w : Str} (h : Ks key names) (hw : key w names.length) (hne : ∀ j : Int, 0 ≤ j → j < names.length → key w j → False) : Ks key (names ++ [w]) := by
  refine ⟨?_, fun y hy => ?_⟩
  · rw [List.nodup_append]
    refine ⟨h.nd, by simp, fun a ha b hb => ?_⟩
    rw [List.mem_singleton] at hb
    intro e
    subst e; subst hb
    obtain ⟨j, j1, j2, j3⟩ := h.ky _ ha
    exact hne j j1 j2 j3
  · rw [List.length_append]
    rcases List.mem_append.mp hy with hy | hy
    · obtain ⟨j, j1, j2, j3⟩ := h.ky y hy
      exact ⟨j, j1, by simp; omega, j3⟩
    · rw [List.mem_singleton] at hy
      subst hy
      exact ⟨_, by omega, by simp; omega, hw⟩
theorem flat_strsD (y : Str) (l : List Str) : flatIn (.str y) (l.map PyData.str) = decide (y ∈ l) := by
  unfold flatIn
  rw [List.any_map]
  induction l with
  | nil => simp
  | cons a l ih =>
    rw [List.any_cons, ih]
    have : ((fun z => PyData.eqv z (.str y)) ∘ PyData.str) a = decide (a = y) := by
      simp only [Function.comp, PyData.eqv]
      by_cases e : a = y
      · subst e; simp
      · simp [e]
    rw [this]
    by_cases e : a = y
    · subst e; simp
    · have e' : ¬ y = a := fun q => e q.symm
      simp [e, e', List.mem_cons]
theorem put1_inj {x : Str} {s c c' : Nat} (h : cutS x none (some (s : Int)) ++ (⟨#[c]⟩ : Str) ++ cutS x (some (s : Int)) none = cutS x none (some (s : Int)) ++ (⟨#[c']⟩ : Str) ++ cutS x (some (s : Int)) none) : c = c' := by
  have h2 := congrArg (fun z : Str => z.cps.toList) h
  simp only [app_list] at h2
  have h3 := List.append_cancel_right h2
  have h4 := List.append_cancel_left h3
  simpa using h4
theorem nodup_set' {α : Type} : ∀ {l : List α} (i : Nat) {w : α}, l.Nodup → w ∉ l → (l.set i w).Nodup
  | [], i, w, h, _ => by simp
  | a :: l, 0, w, h, hw => by
    rw [List.set_cons_zero, List.nodup_cons]
    rw [List.mem_cons, not_or] at hw
    exact ⟨hw.2, (List.nodup_cons.mp h).2⟩
  | a :: l, i + 1, w, h, hw => by
    rw [List.set_cons_succ, List.nodup_cons]
    rw [List.mem_cons, not_or] at hw
    obtain ⟨h1, h2⟩ := List.nodup_cons.mp h
    refine ⟨fun q => ?_, nodup_set' i h2 hw.2⟩
    rcases List.mem_or_eq_of_mem_set q with q | q
    · exact h1 q
    · exact hw.1 q.symm
theorem stride1 {lp v i j : Int} (h : lp = 1 ∨ lp = 3 ∨ lp = 5 ∨ lp = 7 ∨ lp = 9 ∨ lp = 11) (j1 : 0 ≤ j) (j2 : j < i) (i2 : i < 8) (z : (v + lp * i) % 26 = (v + lp * j) % 26) : False := by
  rcases h with rfl | rfl | rfl | rfl | rfl | rfl <;> omega
theorem range_cons (lo : Int) (n : Nat) : rangeD lo (n + 1) = .int lo :: rangeD (lo + 1) n := by
  unfold rangeD
  rw [List.range_succ_eq_map, List.map_cons, List.map_map]
  simp only [List.cons.injEq, List.map_inj_left, Function.comp]
  refine ⟨by simp, fun a _ => ?_⟩
  congr 1
  omega
def c_names : Ct := fun as P => ∃ pen many b, as = [.box (.L pen), .val (.int many)] ∧ 1 ≤ many ∧ many ≤ 8 ∧ PenOk (b + 40) pen ∧ ∀ (names : List Str) pen', (names.length : Int) = many → names.Nodup → (∀ x ∈ names, Nm x) → PenOk b pen' → P (.own (.L (names.map PyData.str))) [.box (.L pen'), .val (.int many)]
theorem use_names {pen : List D} {many : Int} {b : Nat} {P : R → List Ar → Prop} (h1 : 1 ≤ many) (h2 : many ≤ 8) (hp : PenOk (b + 40) pen) (h : ∀ (names : List Str) pen', (names.length : Int) = many → names.Nodup → (∀ x ∈ names, Nm x) → PenOk b pen' → P (.own (.L (names.map PyData.str))) [.box (.L pen'), .val (.int many)]) : Cl c_names [.box (.L pen), .val (.int many)] P := ⟨pen, many, b, rfl, h1, h2, hp, h⟩
theorem w_names (as : List Ar) (P : R → List Ar → Prop) (h : c_names as P) : ctOf 11 (m__law_names c_draw) as P := by
  obtain ⟨pen, many, b, rfl, hm1, hm2, hp, hP⟩ := h
  have sl := sizeLine_eq
  walk_at "R"
  refine use_draw (b := b + 39) hp (by omega) (by omega) fun v1 pen1 a1 a2 hp1 => ?_
  walk_at "R"
  refine use_draw (b := b + 38) hp1 (by omega) (by omega) fun v2 pen2 b1 b2 hp2 => ?_
  obtain ⟨_, hat, sz, rfl, s1, s2⟩ := at_all (ds := [PyData.int 0, PyData.int 7, PyData.int v1]) (v := v2) (fun d => ∃ s, d = .int s ∧ 0 ≤ s ∧ s ≤ 7) b1 b2 (by
    intro d hd
    simp only [List.mem_cons, List.not_mem_nil, or_false] at hd
    rcases hd with rfl | rfl | rfl <;> exact ⟨_, rfl, by omega, by omega⟩)
  walk_at "R"
  refine lcc_by (fun ds acc r => ∃ (pen : List D) (l : List Nat), r = [some (.box true (.L pen)), some (.val (.int many)), some (.val (.str (Str.ofString "abcdefghijklmnopqrstuvwxyz"))), none, none, none, none, none, none, none, none] ∧ acc = l.map (fun c => .str ⟨#[c]⟩) ∧ l.all inL = true ∧ l.length + ds.length ≤ 7 ∧ PenOk (b + 31 + ds.length) pen) ?_ ?_ ?_
  · refine ⟨pen2, [], rfl, rfl, rfl, ?_, hp2.mono ?_⟩
    · rw [range_len]; simp only [List.length_nil]; omega
    · rw [range_len]; omega
  · rintro d ds acc r ⟨pen3, l, rfl, rfl, h1, h2, h3⟩ ih
    simp only [List.length_cons] at h2 h3
    have hl : (l.map fun c => PyData.str ⟨#[c]⟩).length < sizeLine := by rw [List.length_map]; omega
    walk_at "R"
    refine use_draw (b := b + 31 + ds.length) h3 (by omega) (by omega) fun v pen4 c1 c2 hp4 => ?_
    obtain ⟨c, hc, hc2⟩ := letter_at c1 c2
    walk_at "R"
    refine ih _ _ ⟨pen4, l ++ [c], rfl, by rw [List.map_append]; rfl, ?_, by simp; omega, hp4⟩
    rw [List.all_append, h1]; simp [hc2]
  · rintro acc r ⟨pen3, l, rfl, rfl, h1, h2, h3⟩
    simp only [List.length_nil] at h2 h3
    have hj := join_ones_fit (l := l) (by omega)
    have hs := strsOf_ones l
    have ej := joinOnes l
    have ejl : (Txt.join (Str.ofString "") (l.map fun c => (⟨#[c]⟩ : Str))).length = l.length := by rw [slen, ej]
    have ejx : (Txt.join (Str.ofString "") (l.map fun c => (⟨#[c]⟩ : Str))).cps.toList.all inL = true := by rw [ej]; exact h1
    walk_at "G"
    refine on_i hs ?_
    generalize hx : Txt.join (Str.ofString "") (l.map fun c => (⟨#[c]⟩ : Str)) = x at ej ejl ejx
    apply Rq.mk hj
    walk_at "R"
    refine use_draw (b := b + 30) h3 (by omega) (by omega) fun v3 pen4 c1 c2 hp4 => ?_
    walk_at "R"
    refine use_draw (b := b + 29) hp4 (by omega) (by omega) fun v4 pen5 d1 d2 hp5 => ?_
    walk_at "R"
    refine use_draw (b := b + 28) hp5 (by omega) (by omega) fun v5 pen6 e1 e2 hp6 => ?_
    obtain ⟨_, hat2, lp, rfl, lp1, lp2, lp3⟩ := at_all (ds := [PyData.int 1, PyData.int 3, PyData.int 5, PyData.int 7, PyData.int 9, PyData.int 11]) (v := v5) (fun d => ∃ s, d = .int s ∧ 0 ≤ s ∧ s ≤ 11 ∧ (s = 1 ∨ s = 3 ∨ s = 5 ∨ s = 7 ∨ s = 9 ∨ s = 11)) e1 e2 (by
      intro d hd
      simp only [List.mem_cons, List.not_mem_nil, or_false] at hd
      rcases hd with rfl | rfl | rfl | rfl | rfl | rfl <;> exact ⟨_, rfl, by omega, by omega, by omega⟩)
    obtain ⟨sp, rfl⟩ := Int.eq_ofNat_of_zero_le c1
    have q1 := cutS_len x none (some (sp : Int))
    have q2 := cutS_len x (some (sp : Int)) none
    walk_at "R"
    refine lcc_by (fun ds acc r => ∃ names : List Str, r = [some (.box true (.L pen6)), some (.val (.int many)), some (.val (.str (Str.ofString "abcdefghijklmnopqrstuvwxyz"))), some (.val (.str x)), none, some (.val (.int sp)), some (.val (.int v4)), some (.val (.int lp)), none, none, none] ∧ acc = names.map PyData.str ∧ (∀ y ∈ names, Nm y) ∧ ((names.length + ds.length : Nat) : Int) = many ∧ ds = rangeD names.length ds.length ∧ Ks (fun y j => ∃ c, atI (Str.ofString "abcdefghijklmnopqrstuvwxyz").cps.toList ((v4 + lp * j) % 26) = some c ∧ y = cutS x none (some (sp : Int)) ++ (⟨#[c]⟩ : Str) ++ cutS x (some (sp : Int)) none) names) ?_ ?_ ?_
    · refine ⟨[], rfl, rfl, by simp, ?_, ?_, Ks.nil _⟩
      · rw [range_len]; simp only [List.length_nil]; omega
      · rw [range_len]; rfl
    · rintro d ds acc r ⟨names, rfl, rfl, g1, g2, g3, gk⟩ ih
      simp only [List.length_cons] at g2 g3
      rw [range_cons, List.cons.injEq] at g3
      obtain ⟨rfl, g3⟩ := g3
      have i1 : (0 : Int) ≤ names.length := by omega
      have i2 : (names.length : Int) < 8 := by omega
      generalize hi : (names.length : Int) = i at *
      have hl : (names.map PyData.str).length < sizeLine := by rw [List.length_map]; omega
      have hmb := mul_bd (a := lp) (b := i) (A := 11) (B := 100) (by omega) (by omega) (by omega) (by omega)
      obtain ⟨c, hc, hc2⟩ := letter_at (v := (v4 + lp * i) % 26) (Int.emod_nonneg _ (by decide)) (Int.emod_lt_of_pos _ (by decide))
      have one : (⟨#[c]⟩ : Str).length = 1 := rfl
      walk_at "R"
      exact ih _ _ ⟨names ++ [_], rfl, by rw [List.map_append]; rfl, fun y hy => by
        rcases List.mem_append.mp hy with hy | hy
        · exact g1 y hy
        · rw [List.mem_singleton.mp hy]
          exact nm_put ejx (by omega) hc2 (by omega), by simp; omega, by rw [List.length_append, List.length_singleton, Int.natCast_add, hi]; exact g3, gk.add (by rw [hi]; exact ⟨c, hc, rfl⟩) (fun j j1 j2 j3 => by
        rw [hi] at j2
        obtain ⟨c', k1, k2⟩ := j3
        have := put1_inj k2
        subst this
        exact stride1 lp3 j1 j2 i2 (at_inj (by decide +kernel) (Int.emod_nonneg _ (by decide)) (Int.emod_nonneg _ (by decide)) hc k1))⟩
    · rintro acc r ⟨names, rfl, rfl, g1, g2, g3, gk⟩
      walk_at "R"
      refine use_draw (b := b + 27) hp6 (by omega) (by omega) fun v6 pen7 f1 f2 hp7 => ?_
      walk_at "R"
      apply br_d <;> intro hd
      · walk_at "R"
        refine lp_by (fun ds r => ∃ (pen : List D) (names : List Str) (s4 s10 : Option Ce), r = [some (.box true (.L pen)), some (.val (.int many)), some (.val (.str (Str.ofString "abcdefghijklmnopqrstuvwxyz"))), some (.val (.str x)), s4, some (.val (.int sp)), some (.val (.int v4)), some (.val (.int lp)), some (.box false (.L (names.map PyData.str))), some (.box false (.L [.str (Str.ofString "name"), .str (Str.ofString "row"), .str (Str.ofString "many"), .str (Str.ofString "not"), .str (Str.ofString "again"), .str (Str.ofString "hold"), .str (Str.ofString "text"), .str (Str.ofString "drop"), .str (Str.ofString "count"), .str (Str.ofString "start")])), s10] ∧ (∀ y ∈ names, Nm y) ∧ (names.length : Int) = many ∧ (∀ d ∈ ds, ∃ i : Int, d = .int i ∧ 0 ≤ i ∧ i < many) ∧ PenOk (b + ds.length) pen ∧ names.Nodup) ?_ ?_ ?_
        · refine ⟨pen7, names, _, _, rfl, g1, by simpa using g2, fun d hd => ?_, hp7.mono ?_, gk.nd⟩
          · obtain ⟨i, e, k1, k2⟩ := range_ints d hd
            exact ⟨i, e, by omega, by omega⟩
          · rw [range_len]; omega
        · rintro d ds r ⟨pen8, names, s4, s10, rfl, k1, k2, k3, k4, k5⟩ ih
          obtain ⟨i, rfl, i1, i2⟩ := k3 d List.mem_cons_self
          have k3' := fun d' hd => k3 d' (List.mem_cons_of_mem _ hd)
          simp only [List.length_cons] at k4
          walk_at "R"
          refine use_draw (b := b + ds.length) k4 (by omega) (by omega) fun v7 pen9 j1 j2 hp9 => ?_
          obtain ⟨_, hat3, w, rfl, hw⟩ := at_all (ds := [PyData.str (Str.ofString "name"), PyData.str (Str.ofString "row"), PyData.str (Str.ofString "many"), PyData.str (Str.ofString "not"), PyData.str (Str.ofString "again"), PyData.str (Str.ofString "hold"), PyData.str (Str.ofString "text"), PyData.str (Str.ofString "drop"), PyData.str (Str.ofString "count"), PyData.str (Str.ofString "start")]) (v := v7) (fun d => ∃ s, d = .str s ∧ Nm s) j1 j2 (by
            intro d hd
            simp only [List.mem_cons, List.not_mem_nil, or_false] at hd
            rcases hd with rfl | rfl | rfl | rfl | rfl | rfl | rfl | rfl | rfl | rfl <;> exact ⟨_, rfl, nm_of (by decide +kernel) (by decide) (by decide)⟩)
          have hix : ixN (names.map PyData.str).length i = some i.toNat := ix_nat i1 (by rw [List.length_map]; omega)
          walk_at "R"
          apply rqB.mk
          · rw [flatD_strs]; rfl
          rw [flat_strsD]
          walk_at "R"
          apply br_nd <;> intro hd
          · walk_at "R"
            apply strictL_mk
            walk_at "R"
            refine ih _ ⟨pen9, names.set i.toNat w, _, _, by rw [List.map_set], fun y hy => ?_, by rw [List.length_set]; exact k2, k3', hp9, nodup_set' _ k5 (by simpa using hd)⟩
            rcases List.mem_or_eq_of_mem_set hy with hy | rfl
            · exact k1 y hy
            · exact hw
          · walk_at "R"
            exact ih _ ⟨pen9, names, _, _, rfl, k1, k2, k3', hp9, k5⟩
        · rintro r ⟨pen8, names, s4, s10, rfl, k1, k2, k3, k4, k5⟩
          walk_at "R"
          exact hP names _ k2 k5 k1 (k4.mono (by omega))
      · walk_at "R"
        exact hP names _ (by simpa using g2) gk.nd g1 (hp7.mono (by omega))
mutual
def anms : Rdr → List Str
  | .l1 .name x => [x]
  | .l1 .again x => [x]
  | .ps _ rs => anmss rs
  | .un _ r => anms r
  | .bi .make _ r => anms r
  | .bi .hold x r => x :: anms r
  | .bi .tag x r => x :: anms r
  | _ => []
def anmss : List Rdr → List Str
  | [] => []
  | r :: rs => anms r ++ anmss rs
end
def Wn (names : List Str) (r : Rdr) : Prop := r.wf ∧ ∀ y ∈ anms r, y ∈ names
theorem anmss_sub {names : List Str} : ∀ {rs : List Rdr}, (∀ r ∈ rs, Wn names r) → ∀ y ∈ anmss rs, y ∈ names
  | [], _, y, h => by simp [anmss] at h
  | r :: rs, k, y, h => by
    rw [anmss, List.mem_append] at h
    rcases h with h | h
    · exact (k r List.mem_cons_self).2 y h
    · exact anmss_sub (fun q hq => k q (List.mem_cons_of_mem _ hq)) y h
def c_leaf : Ct := fun as P => ∃ pen names b, as = [.box (.L pen), .val (.list (names.map PyData.str))] ∧ names ≠ [] ∧ names.length ≤ 8 ∧ (∀ x ∈ names, Nm x) ∧ PenOk (b + 210) pen ∧ ∀ (r : Rdr) pen', Wn names r → r.dep ≤ 1 → r.cnt ≤ 1 → PenOk b pen' → P (.val r.toD) [.box (.L pen'), .val (.list (names.map PyData.str))]
theorem use_leaf {pen : List D} {names : List Str} {b : Nat} {P : R → List Ar → Prop} (h1 : names ≠ []) (h2 : names.length ≤ 8) (h3 : ∀ x ∈ names, Nm x) (hp : PenOk (b + 210) pen) (h : ∀ (r : Rdr) pen', Wn names r → r.dep ≤ 1 → r.cnt ≤ 1 → PenOk b pen' → P (.val r.toD) [.box (.L pen'), .val (.list (names.map PyData.str))]) : Cl c_leaf [.box (.L pen), .val (.list (names.map PyData.str))] P := ⟨pen, names, b, rfl, h1, h2, h3, hp, h⟩
theorem w_leaf (as : List Ar) (P : R → List Ar → Prop) (h : c_leaf as P) : ctOf 5 (m__law_leaf c_draw c_signs) as P := by
  obtain ⟨pen, names, b, rfl, n1, n2, n3, hp, hP⟩ := h
  have sl := sizeLine_eq
  have n0 : 0 < names.length := List.length_pos_iff.mpr n1
  walk_at "R"
  refine use_draw (b := b + 209) hp (by omega) (by omega) fun v1 pen1 a1 a2 hp1 => ?_
  walk_at "R"
  refine use_draw (b := b + 208) hp1 (by rw [List.length_map]; omega) (by rw [List.length_map]; omega) fun v2 pen2 b1 b2 hp2 => ?_
  obtain ⟨_, hn, nm, rfl, tn, tm⟩ := at_all (ds := names.map PyData.str) (v := v2) (fun d => ∃ s, d = .str s ∧ Nm s ∧ s ∈ names) b1 b2 (by
    intro d hd
    simp only [List.mem_map] at hd
    obtain ⟨s, hs, rfl⟩ := hd
    exact ⟨s, rfl, n3 s hs, hs⟩)
  walk_at "R"
  refine use_signs (b := b + 108) hp2 fun x3 pen3 t3 hp3 => ?_
  walk_at "R"
  refine use_signs (b := b + 8) hp3 fun x4 pen4 t4 hp4 => ?_
  have x4l := t4.1.2
  walk_at "R"
  have s0 : Sg0 (cutS x4 none (some 94)) := by
    have e := cutS_hi x4 94
    have e2 : cutS x4 none (some 94) = cutS x4 none (some ((94 : Nat) : Int)) := rfl
    refine ⟨?_, ?_⟩
    · rw [e2, e]; exact (List.take_sublist _ _).trans t4.1.1
    · rw [e2, slen, e, List.length_take]; omega
  obtain ⟨_, hr, r, rfl, g1, g2, g3⟩ := at_all (ds := [(Rdr.l1 .sign x3).toD, (Rdr.l1 .but (cutS x4 none (some 94))).toD, (Rdr.l1 .name nm).toD, (Rdr.l0 .nothing).toD, (Rdr.l0 .never).toD, (Rdr.l1 .again nm).toD, (Rdr.l1 .sign "ab").toD, (Rdr.l1 .but "").toD]) (v := v1) (fun d => ∃ r : Rdr, d = r.toD ∧ Wn names r ∧ r.dep ≤ 1 ∧ r.cnt ≤ 1) a1 a2 (by
    intro d hd
    simp only [List.mem_cons, List.not_mem_nil, or_false] at hd
    rcases hd with rfl | rfl | rfl | rfl | rfl | rfl | rfl | rfl
    · exact ⟨_, rfl, ⟨t3, (fun y hy => (nomatch hy))⟩, Nat.le_refl _, Nat.le_refl _⟩
    · exact ⟨_, rfl, ⟨s0, (fun y hy => (nomatch hy))⟩, Nat.le_refl _, Nat.le_refl _⟩
    · exact ⟨_, rfl, ⟨tn, (fun y hy => by rw [List.mem_singleton.mp hy]; exact tm)⟩, Nat.le_refl _, Nat.le_refl _⟩
    · exact ⟨_, rfl, ⟨trivial, (fun y hy => (nomatch hy))⟩, Nat.le_refl _, Nat.le_refl _⟩
    · exact ⟨_, rfl, ⟨trivial, (fun y hy => (nomatch hy))⟩, Nat.le_refl _, Nat.le_refl _⟩
    · exact ⟨_, rfl, ⟨tn, (fun y hy => by rw [List.mem_singleton.mp hy]; exact tm)⟩, Nat.le_refl _, Nat.le_refl _⟩
    · exact ⟨_, rfl, ⟨sg1_of (by decide +kernel) (by decide) (by decide), (fun y hy => (nomatch hy))⟩, Nat.le_refl _, Nat.le_refl _⟩
    · exact ⟨Rdr.l1 .but "", rfl, ⟨⟨List.isSublist_iff_sublist.mp (by decide +kernel), by decide⟩, (fun y hy => (nomatch hy))⟩, Nat.le_refl _, Nat.le_refl _⟩)
  walk_at "R"
  exact hP r _ g1 g2 g3 (hp4.mono (by omega))
def cost0 : Nat → Nat
  | 0 => 300
  | n + 1 => 6 * cost0 n + 300
@[irreducible] def cost (n : Nat) : Nat := cost0 n
theorem cost_s (n : Nat) : cost (n + 1) = 6 * cost n + 300 := by unfold cost; rfl
theorem cost_ge (n : Nat) : 300 ≤ cost n := by unfold cost; cases n <;> simp only [cost0] <;> omega
theorem cost_8 : cost 8 ≤ 1000000000 := by unfold cost; decide
def NmsOk (names : List Str) : Prop := names ≠ [] ∧ names.length ≤ 8 ∧ ∀ x ∈ names, Nm x
def c_rd (n : Nat) : Ct := fun as P => ∃ pen names deep u b, as = [.box (.L pen), .val (.list (names.map PyData.str)), .val (.int deep), .box (.L [.int u])] ∧ NmsOk names ∧ 1 ≤ deep ∧ deep ≤ (n : Int) ∧ 0 ≤ u ∧ u ≤ 1000 ∧ PenOk (b + cost n) pen ∧
  ∀ (r : Rdr) pen' u', Wn names r → r.dep ≤ n → 0 ≤ u' → (r.cnt : Int) ≤ 1 + u - u' → PenOk b pen' → P (.val r.toD) [.box (.L pen'), .val (.list (names.map PyData.str)), .val (.int deep), .box (.L [.int u'])]
theorem use_rd {n : Nat} {pen : List D} {names : List Str} {deep u : Int} {b : Nat} {P : R → List Ar → Prop} (hn : NmsOk names) (h1 : 1 ≤ deep) (h2 : deep ≤ (n : Int)) (h3 : 0 ≤ u) (h4 : u ≤ 1000) (hp : PenOk (b + cost n) pen)
    (h : ∀ (r : Rdr) pen' u', Wn names r → r.dep ≤ n → 0 ≤ u' → (r.cnt : Int) ≤ 1 + u - u' → PenOk b pen' → P (.val r.toD) [.box (.L pen'), .val (.list (names.map PyData.str)), .val (.int deep), .box (.L [.int u'])]) : Cl (c_rd n) [.box (.L pen), .val (.list (names.map PyData.str)), .val (.int deep), .box (.L [.int u])] P := ⟨pen, names, deep, u, b, rfl, hn, h1, h2, h3, h4, hp, h⟩
theorem n_rd (as : List Ar) (Q : R → List Ar → Prop) : ¬ c_rd 0 as Q := by
  rintro ⟨pen, names, deep, u, b, rfl, hn, h1, h2, _⟩
  omega
theorem w_rd (n : Nat) (as : List Ar) (P : R → List Ar → Prop) (h : c_rd (n + 1) as P) : ctOf 10 (m__law_reader c_draw c_leaf (c_rd n)) as P := by
  obtain ⟨pen, names, deep, u, b, rfl, hn, h1, h2, h3, h4, hp, hP⟩ := h
  have sl := sizeLine_eq
  have n0 : 0 < names.length := List.length_pos_iff.mpr hn.1
  have n8 := hn.2.1
  rw [cost_s] at hp
  have hc := cost_ge n
  generalize hC : cost n = C at *
  have fin : ∀ (r : Rdr) (pen' : List D) (b' : Nat) (u' : Int), Wn names r → r.dep ≤ n + 1 → 0 ≤ u' → (r.cnt : Int) ≤ 1 + u - u' → PenOk (b + b') pen' → P (R.val r.toD) [.box (.L pen'), .val (.list (names.map PyData.str)), .val (.int deep), .box (.L [.int u'])] := fun r pen' b' u' g1 g2 g3 g4 g5 => hP r pen' u' g1 g2 g3 g4 (g5.mono (by omega))
  walk_at "R"
  refine use_draw (b := b + (6 * C + 299)) hp (by omega) (by omega) fun v1 pen1 a1 a2 hp1 => ?_
  walk_at "R"
  apply br_d <;> intro hd
  · (walk_at "R"; refine use_leaf hn.1 hn.2.1 hn.2.2 (b := b) (hp1.mono (by omega)) fun r pen2 g1 g2 g3 hp2 => ?_; walk_at "R"; exact fin r _ 0 _ g1 (by omega) h3 (by omega) hp2)
  · walk_at "R"
    apply br_d <;> intro hd
    · (walk_at "R"; refine use_leaf hn.1 hn.2.1 hn.2.2 (b := b) (hp1.mono (by omega)) fun r pen2 g1 g2 g3 hp2 => ?_; walk_at "R"; exact fin r _ 0 _ g1 (by omega) h3 (by omega) hp2)
    · walk_at "R"
      apply br_d <;> intro hd
      · (walk_at "R"; refine use_leaf hn.1 hn.2.1 hn.2.2 (b := b) (hp1.mono (by omega)) fun r pen2 g1 g2 g3 hp2 => ?_; walk_at "R"; exact fin r _ 0 _ g1 (by omega) h3 (by omega) hp2)
      · have hdeep : 1 ≤ deep - 1 ∧ deep - 1 ≤ (n : Int) := by omega
        walk_at "R"
        refine use_draw (b := b + (6 * C + 298)) hp1 (by rw [List.length_map]; omega) (by rw [List.length_map]; omega) fun v2 pen2 b1 b2 hp2 => ?_
        obtain ⟨_, hnm, nm, rfl, tn, tm⟩ := at_all (ds := names.map PyData.str) (v := v2) (fun d => ∃ s, d = .str s ∧ Nm s ∧ s ∈ names) b1 b2 (by
          intro d hd
          simp only [List.mem_map] at hd
          obtain ⟨s, hs, rfl⟩ := hd
          exact ⟨s, rfl, hn.2.2 s hs, hs⟩)
        walk_at "R"
        refine use_draw (b := b + (6 * C + 297)) hp2 (by omega) (by omega) fun v3 pen3 c1 c2 hp3 => ?_
        obtain ⟨_, hat, s, rfl, s1, s2⟩ := at_all (ds := [PyData.int (2 + v3), PyData.int 1]) (v := if decide (4 < v1) = true then 1 else 0) (fun d => ∃ s, d = .int s ∧ 1 ≤ s ∧ s ≤ 6) (by split <;> omega) (by show _ < (2 : Int); split <;> omega) (by
          intro d hd
          simp only [List.mem_cons, List.not_mem_nil, or_false] at hd
          rcases hd with rfl | rfl <;> exact ⟨_, rfl, by omega, by omega⟩)
        have tail : ∀ (w m : Int), 0 ≤ w → w < 12 → 1 ≤ m → m ≤ 6 → m ≤ u → (w < 5 → 2 ≤ m) → m__law_reader_10 c_draw c_leaf (c_rd n) [some (.box true (.L pen3)), some (.val (.list (names.map PyData.str))), some (.val (.int deep)), some (.box true (.L [.int u])), some (.val (.int w)), some (.val (.str nm)), some (.val (.int m)), none, none, none]
            ⟨fun r => onO (endArs 0 [.box (.L pen), .val (.list (names.map PyData.str)), .val (.int deep), .box (.L [.int u])] r) fun as' => P (.val .none) as', fun x r => onO (retOf r x) fun x' => onO (endArs 0 [.box (.L pen), .val (.list (names.map PyData.str)), .val (.int deep), .box (.L [.int u])] r) fun as' => P x' as', fun _ => False, fun _ => False⟩ := by
          intro w m w1 w2 m1 m2 m3 m4
          walk_at "R"
          refine lcc_by (fun ds acc r => ∃ (pen : List D) (u' : Int) (rs : List Rdr), r = [some (.box true (.L pen)), some (.val (.list (names.map PyData.str))), some (.val (.int deep)), some (.box true (.L [.int u'])), some (.val (.int w)), some (.val (.str nm)), some (.val (.int m)), none, none, none] ∧ acc = rs.map Rdr.toD ∧ (∀ x ∈ rs, Wn names x) ∧ deps rs ≤ n ∧ ((rs.length + ds.length : Nat) : Int) = m ∧ 0 ≤ u' ∧ ((cnts rs : Nat) : Int) ≤ rs.length + (u - m) - u' ∧ PenOk (b + 290 + C * ds.length) pen) ?_ ?_ ?_
          · have e : (rangeD 0 m.toNat).length = m.toNat := range_len _ _
            refine ⟨pen3, u - m, [], rfl, rfl, (fun x hx => (nomatch hx)), Nat.zero_le _, by rw [e]; simp only [List.length_nil]; omega, by omega, by simp [cnts], hp3.mono ?_⟩
            rw [e]
            have : C * m.toNat ≤ C * 6 := Nat.mul_le_mul_left _ (by omega)
            omega
          · rintro d ds acc r ⟨pen4, u', rs, rfl, rfl, k1, k2, k3, k4, k5, k6⟩ ih
            simp only [List.length_cons, Nat.mul_succ] at k3 k6
            have hl' : (rs.map Rdr.toD).length < sizeLine := by rw [List.length_map]; omega
            walk_at "R"
            refine use_rd (b := b + 290 + C * ds.length) hn hdeep.1 hdeep.2 k4 (by omega) (by rw [hC]; exact k6.mono (by omega)) fun r pen5 u2 g1 g2 g3 g4 hp5 => ?_
            walk_at "R"
            refine ih _ _ ⟨pen5, u2, rs ++ [r], rfl, by rw [List.map_append]; rfl, ?_, ?_, by simp; omega, g3, ?_, hp5⟩
            · intro x hx
              rcases List.mem_append.mp hx with hx | hx
              · exact k1 x hx
              · rw [List.mem_singleton.mp hx]; exact g1
            · rw [deps_le] at k2 ⊢
              intro x hx
              rcases List.mem_append.mp hx with hx | hx
              · exact k2 x hx
              · rw [List.mem_singleton.mp hx]; exact g2
            · rw [cnts_app]
              simp only [cnts, List.length_append, List.length_cons, List.length_nil]
              omega
          · rintro acc r ⟨pen4, u', rs, rfl, rfl, k1, k2, k3, k4, k5, k6⟩
            simp only [List.length_nil] at k3 k6
            walk_at "R"
            apply br_d <;> intro hd
            · have hm2 := m4 hd
              obtain ⟨_, hw, wm, rfl⟩ := at_all (ds := [PyData.str "row", PyData.str "row", PyData.str "row", PyData.str "choice", PyData.str "choice"]) (v := w) (fun d => ∃ w : WM, d = .str w.s) (by omega) (by show w < 5; omega) (by
                intro d hd
                simp only [List.mem_cons, List.not_mem_nil, or_false] at hd
                rcases hd with rfl | rfl | rfl | rfl | rfl
                · exact ⟨.row, rfl⟩
                · exact ⟨.row, rfl⟩
                · exact ⟨.row, rfl⟩
                · exact ⟨.choice, rfl⟩
                · exact ⟨.choice, rfl⟩)
              walk_at "R"
              have e : (Rdr.ps wm rs).toD = .tuple [.str wm.s, .tuple (rs.map Rdr.toD)] := by rw [Rdr.toD, toDs_map]
              rw [← e]
              refine fin _ _ 290 _ ⟨⟨by omega, by omega, wfs_iff.mpr fun x hx => (k1 x hx).1⟩, anmss_sub k1⟩ (by rw [Rdr.dep]; omega) k4 ?_ (k6.mono (by omega))
              rw [Rdr.cnt]; omega
            · cases rs with
              | nil => simp at k3; omega
              | cons r rs =>
                have r1 := k1 r List.mem_cons_self
                have r2 : r.dep ≤ n := Nat.le_trans (Nat.le_max_left _ _) k2
                have r3 : (r.cnt : Int) ≤ u - u' := by
                  simp only [cnts, List.length_cons] at k5 k3
                  have := cnts_ge rs
                  omega
                have hp0 : atI ((r :: rs).map Rdr.toD) 0 = some r.toD := at_0 _ _
                have word : ∃ d, atI [PyData.str "many", PyData.str "maybe", PyData.str "ahead", PyData.str "not", PyData.str "hold", PyData.str "tag", PyData.str "make"] (w - 5) = some d ∧ ((∃ w : WO, d = .str w.s) ∨ (d = .str "hold") ∨ (d = .str "tag") ∨ d = .str "make") := at_all _ (by omega) (by show w - 5 < 7; omega) (by
                  intro d hd
                  simp only [List.mem_cons, List.not_mem_nil, or_false] at hd
                  rcases hd with rfl | rfl | rfl | rfl | rfl | rfl | rfl
                  · exact .inl ⟨.many, rfl⟩
                  · exact .inl ⟨.maybe, rfl⟩
                  · exact .inl ⟨.ahead, rfl⟩
                  · exact .inl ⟨.not, rfl⟩
                  · exact .inr (.inl rfl)
                  · exact .inr (.inr (.inl rfl))
                  · exact .inr (.inr (.inr rfl)))
                obtain ⟨_, hw, word⟩ := word
                rcases word with ⟨wo, rfl⟩ | rfl | rfl | rfl
                · cases wo <;> (walk_at "R"; exact fin (.un _ r) _ 290 _ r1 (by rw [Rdr.dep]; omega) k4 (by rw [Rdr.cnt]; omega) (k6.mono (by omega)))
                · walk_at "R"
                  exact fin (.bi .hold nm r) _ 290 _ ⟨⟨tn, r1.1⟩, fun y hy => by
                    rcases List.mem_cons.mp hy with rfl | hy
                    · exact tm
                    · exact r1.2 y hy⟩ (by rw [Rdr.dep]; omega) k4 (by rw [Rdr.cnt]; omega) (k6.mono (by omega))
                · walk_at "R"
                  exact fin (.bi .tag nm r) _ 290 _ ⟨⟨tn, r1.1⟩, fun y hy => by
                    rcases List.mem_cons.mp hy with rfl | hy
                    · exact tm
                    · exact r1.2 y hy⟩ (by rw [Rdr.dep]; omega) k4 (by rw [Rdr.cnt]; omega) (k6.mono (by omega))
                · walk_at "R"
                  refine use_draw (b := b + 289) (k6.mono (by omega)) (by omega) (by omega) fun v5 pen5 j1 j2 hp5 => ?_
                  obtain ⟨_, hmk, x, rfl, tx⟩ := at_all (ds := [PyData.str "text", PyData.str "drop", PyData.str "count", PyData.str "number"]) (v := v5) (fun d => ∃ x, d = .str x ∧ Mk x) (by omega) j2 (by
                    intro d hd
                    simp only [List.mem_cons, List.not_mem_nil, or_false] at hd
                    rcases hd with rfl | rfl | rfl | rfl
                    · exact ⟨_, rfl, .inl rfl⟩
                    · exact ⟨_, rfl, .inr (.inl rfl)⟩
                    · exact ⟨_, rfl, .inr (.inr (.inl rfl))⟩
                    · exact ⟨_, rfl, .inr (.inr (.inr rfl))⟩)
                  walk_at "R"
                  exact fin (.bi .make x r) _ 289 _ ⟨⟨tx, r1.1⟩, r1.2⟩ (by rw [Rdr.dep]; omega) k4 (by rw [Rdr.cnt]; omega) hp5
        walk_at "R"
        apply br_d <;> intro hd
        · walk_at "R"
          apply br_d <;> intro hd
          · exact tail (5 + v1) 1 (by omega) (by omega) (by omega) (by omega) (by omega) (by omega)
          · exact tail v1 _ (by omega) (by omega) (by split <;> omega) (by split <;> omega) (by split <;> omega) (fun _ => by omega)
        · exact tail v1 _ (by omega) (by omega) (by split <;> omega) (by split <;> omega) (by split <;> omega) (fun _ => by omega)
def c_within : Ct := fun as P => ∃ r : Rdr, as = [.val r.toD] ∧ P (.own (.L ((kids r).map Rdr.toD))) [.val r.toD]
theorem use_within {r : Rdr} {P : R → List Ar → Prop} (h : P (.own (.L ((kids r).map Rdr.toD))) [.val r.toD]) : Cl c_within [.val r.toD] P := ⟨r, rfl, h⟩
theorem w_within (as : List Ar) (P : R → List Ar → Prop) (h : c_within as P) : ctOf 3 m_within as P := by
  obtain ⟨r, rfl, hP⟩ := h
  have sl := sizeLine_eq
  cases r with
  | l0 w => cases w <;> (walk_at "R"; exact hP)
  | l1 w x => cases w <;> (walk_at "R"; exact hP)
  | ps w rs =>
    have e : (Rdr.ps w rs).toD = .tuple [.str w.s, .tuple (rs.map Rdr.toD)] := by rw [Rdr.toD, toDs_map]
    rw [e] at hP ⊢
    cases w <;> (walk_at "R"; exact hP)
  | un w r => cases w <;> (walk_at "R"; exact hP)
  | bi w x r => cases w <;> (walk_at "R"; exact hP)
theorem w_inner (as : List Ar) (P : R → List Ar → Prop) (h : c_within as P) : ctOf 1 m__law_inner as P := by
  obtain ⟨r, rfl, hP⟩ := h
  have sl := sizeLine_eq
  cases r with
  | l0 w => cases w <;> (walk_at "R"; exact hP)
  | l1 w x => cases w <;> (walk_at "R"; exact hP)
  | ps w rs =>
    have e : (Rdr.ps w rs).toD = .tuple [.str w.s, .tuple (rs.map Rdr.toD)] := by rw [Rdr.toD, toDs_map]
    rw [e] at hP ⊢
    cases w <;> (walk_at "R"; exact hP)
  | un w r => cases w <;> (walk_at "R"; exact hP)
  | bi w x r => cases w <;> (walk_at "R"; exact hP)
mutual
/-- a reader and all within it, in order -/
def pre : Rdr → List Rdr
  | .l0 w => [.l0 w]
  | .l1 w x => [.l1 w x]
  | .ps w rs => .ps w rs :: pres rs
  | .un w r => .un w r :: pre r
  | .bi w x r => .bi w x r :: pre r
def pres : List Rdr → List Rdr
  | [] => []
  | r :: rs => pre r ++ pres rs
end
theorem pre_kids (r : Rdr) : pre r = r :: pres (kids r) := by
  cases r <;> simp [pre, pres, kids]
theorem pres_app : ∀ rs qs : List Rdr, pres (rs ++ qs) = pres rs ++ pres qs
  | [], _ => rfl
  | r :: rs, qs => by simp only [List.cons_append, pres, pres_app rs qs, List.append_assoc]
mutual
theorem pre_len : ∀ r : Rdr, (pre r).length = r.cnt
  | .l0 w => rfl
  | .l1 w x => rfl
  | .ps w rs => by rw [pre, List.length_cons, pres_len rs, Rdr.cnt]
  | .un w r => by rw [pre, List.length_cons, pre_len r, Rdr.cnt]
  | .bi w x r => by rw [pre, List.length_cons, pre_len r, Rdr.cnt]
theorem pres_len : ∀ rs : List Rdr, (pres rs).length = cnts rs
  | [] => rfl
  | r :: rs => by rw [pres, List.length_append, pre_len r, pres_len rs, cnts]
end
def c_aw (n : Nat) : Ct := fun as P => ∃ r : Rdr, as = [.val r.toD] ∧ r.dep ≤ n ∧ r.cnt ≤ 1000 ∧ P (.own (.L ((pre r).map Rdr.toD))) [.val r.toD]
theorem use_aw {n : Nat} {r : Rdr} {P : R → List Ar → Prop} (h1 : r.dep ≤ n) (h2 : r.cnt ≤ 1000) (h : P (.own (.L ((pre r).map Rdr.toD))) [.val r.toD]) : Cl (c_aw n) [.val r.toD] P := ⟨r, rfl, h1, h2, h⟩
theorem n_aw (as : List Ar) (Q : R → List Ar → Prop) : ¬ c_aw 0 as Q := by
  rintro ⟨r, rfl, h, _⟩
  have := r.dep_pos
  omega
theorem w_aw (n : Nat) (as : List Ar) (P : R → List Ar → Prop) (h : c_aw (n + 1) as P) : ctOf 3 (m_all_within c_within (c_aw n)) as P := by
  obtain ⟨r, rfl, hd, hc, hP⟩ := h
  have sl := sizeLine_eq
  have kd := kids_dep hd
  have hl := pre_len r
  rw [pre_kids, List.length_cons] at hl
  rw [pre_kids] at hP
  walk_at "R"
  refine use_within ?_
  walk_at "R"
  refine lp_by (fun ds ρ => ∃ (dn rest : List Rdr) (s2 : Option D), kids r = dn ++ rest ∧ ds = rest.map Rdr.toD ∧ ρ = [some (.val r.toD), some (.box false (.L ((r :: pres dn).map Rdr.toD))), s2.map Ce.val]) ?_ ?_ ?_
  · exact ⟨[], kids r, none, rfl, rfl, rfl⟩
  · rintro d ds ρ ⟨dn, rest, s2, k1, k2, rfl⟩ ih
    cases rest with
    | nil => cases k2
    | cons q rest =>
    simp only [List.map_cons, List.cons.injEq] at k2
    obtain ⟨rfl, rfl⟩ := k2
    have hq : q ∈ kids r := by rw [k1]; simp
    have hqc := kids_cnt q hq
    rw [k1, pres_app, List.length_append, pres, List.length_append] at hl
    have l1 : ((r :: pres dn).map Rdr.toD).length + ((pre q).map Rdr.toD).length ≤ sizeLine := by rw [List.length_map, List.length_map, List.length_cons]; omega
    walk_at "R"
    refine use_aw (kd q hq) (by omega) ?_
    walk_at "R"
    refine ih _ ⟨dn ++ [q], rest, some q.toD, by rw [k1]; simp, rfl, ?_⟩
    rw [pres_app]
    simp [pres]
  · rintro ρ ⟨dn, rest, s2, k1, k2, rfl⟩
    have e0 : rest = [] := by simpa using k2.symm
    subst e0
    rw [List.append_nil] at k1
    rw [k1] at hP
    walk_at "R"
    exact hP
end L06
namespace L06
open PySem L2 PyProof.Rows DL
local macro_rules | `(tactic| walk_at "G") => `(tactic| ((conv => whnf); try dsimp only [DL.MB.toD, DL.cellOf]))
local macro_rules | `(tactic| walk_at "O") => `(tactic| first | assumption | omega | (refine ⟨?_, ?_⟩ <;> first | assumption | omega) | (simp only [DL.app_len]; omega) | (simp only [List.length_append, List.length_cons, List.length_nil, List.length_map]; omega))
local macro_rules | `(tactic| walk_at "P") => `(tactic| first | omega | (simp only [List.length_map]; omega))
local macro_rules | `(tactic| walk_at "R") => `(tactic| (walk_at "G"; repeat ((first | (apply DL.Rq.mk; (· walk_at "O")) | (apply DL.on_i; (· assumption)) | (apply DL.rqB.mk; (· exact DL.okR_of (by walk_at "P") (by walk_at "P"))) | (apply DL.rqB.mk; (· exact DL.okR2_of (by walk_at "P") (by walk_at "P") (by walk_at "P") (by walk_at "P")))); walk_at "G")))
local macro_rules | `(tactic| walk_at "N") => `(tactic| (walk_at "R"; repeat ((first | (refine And.intro rfl ?_) | (refine And.intro (of_decide_eq_true rfl) ?_) | (refine And.intro (by decide) ?_)); walk_at "R")))
def pairD (p : Str × Rdr) : D := .tuple [.str p.1, p.2.toD]
def cntB (bk : List (Str × Rdr)) : Nat := cnts (bk.map (·.2))
structure BkOk (bk : List (Str × Rdr)) : Prop where
  l2 : bk.length ≤ 8
  nm : ∀ p ∈ bk, Nm p.1
  wf : ∀ p ∈ bk, p.2.wf
  dep : ∀ p ∈ bk, p.2.dep ≤ 8
  cnt : cntB bk ≤ 80
def wordD : Rdr → Str
  | .l0 w => w.s
  | .l1 w _ => w.s
  | .ps w _ => w.s
  | .un w _ => w.s
  | .bi w _ _ => w.s
theorem word_at (r : Rdr) : ∃ tl, r.toD = .tuple (.str (wordD r) :: tl) := by
  cases r <;> exact ⟨_, rfl⟩
theorem lcc2_by {vs vs1 : List Nat} {g : GT} {tt : MT} {mi1 : MI} {g1 : GT} {tt1 : MT} {te : ME} {P : List D → Rho → Prop} {ds acc : List D} {r : Rho} (I : List D → List D → Rho → Prop) (hi : I ds acc r) (h : ∀ d ds acc r, I (d :: ds) acc r → (∀ acc' r', I ds acc' r' → lcM2 vs vs1 g tt mi1 g1 tt1 te P ds acc' r') → lcM2 vs vs1 g tt mi1 g1 tt1 te P (d :: ds) acc r) (h0 : ∀ acc r, I [] acc r → P acc r) : Lc2 vs vs1 g tt mi1 g1 tt1 te P ds acc r := by
  have go : ∀ ds acc r, I ds acc r → lcM2 vs vs1 g tt mi1 g1 tt1 te P ds acc r := by
    intro ds
    induction ds with
    | nil => intro acc r q; exact h0 acc r q
    | cons d ds ih => intro acc r q; exact h d ds acc r q fun acc' r' q' => ih acc' r' q'
  exact ⟨go ds acc r hi⟩
def bookD (bk : List (Str × Rdr)) : D := .tuple (bk.map pairD)
def parts (bk : List (Str × Rdr)) : List Rdr := pres (bk.map (·.2))
theorem parts_len (bk : List (Str × Rdr)) : (parts bk).length = cntB bk := pres_len _
def c_parts : Ct := fun as P => ∃ bk, as = [.val (bookD bk)] ∧ BkOk bk ∧ P (.own (.L ((parts bk).map Rdr.toD))) [.val (bookD bk)]
theorem use_parts {bk : List (Str × Rdr)} {P : R → List Ar → Prop} (h1 : BkOk bk) (h : P (.own (.L ((parts bk).map Rdr.toD))) [.val (bookD bk)]) : Cl c_parts [.val (bookD bk)] P := ⟨bk, rfl, h1, h⟩
theorem w_parts (as : List Ar) (P : R → List Ar → Prop) (h : c_parts as P) : ctOf 4 (m_parts_of (c_aw 8)) as P := by
  obtain ⟨bk, rfl, hb, hP⟩ := h
  have sl := sizeLine_eq
  have hl := parts_len bk
  have hc := hb.cnt
  walk_at "R"
  refine lcc2_by (fun ds acc ρ => ∃ dn rest : List (Str × Rdr), bk = dn ++ rest ∧ ds = rest.map pairD ∧ acc = (parts dn).map Rdr.toD ∧ ρ = [some (.val (bookD bk)), none, none, none]) ⟨[], bk, rfl, rfl, rfl, rfl⟩ ?_ ?_
  · rintro d ds acc ρ ⟨dn, rest, k1, k2, rfl, rfl⟩ ih
    cases rest with
    | nil => cases k2
    | cons q rest =>
    simp only [List.map_cons, List.cons.injEq] at k2
    obtain ⟨rfl, rfl⟩ := k2
    have hq : q ∈ bk := by rw [k1]; simp
    obtain ⟨y, r⟩ := q
    have hsum : cntB bk = cntB dn + (r.cnt + cntB rest) := by
      unfold cntB
      rw [k1, List.map_append, cnts_app, List.map_cons, cnts]
    have hpd := parts_len dn
    have hpr := pre_len r
    walk_at "R"
    refine use_aw (hb.dep _ hq) (by omega) ?_
    walk_at "R"
    refine lcc_by (fun ds acc ρ => ∃ d2 r2 : List Rdr, pre r = d2 ++ r2 ∧ ds = r2.map Rdr.toD ∧ acc = (parts dn ++ d2).map Rdr.toD ∧ ρ = [some (.val (bookD bk)), some (.val (.str y)), some (.val r.toD), none]) ⟨[], pre r, rfl, rfl, by rw [List.append_nil], rfl⟩ ?_ ?_
    · rintro d ds acc ρ ⟨d2, r2, j1, j2, rfl, rfl⟩ ih2
      cases r2 with
      | nil => cases j2
      | cons z r2 =>
      simp only [List.map_cons, List.cons.injEq] at j2
      obtain ⟨rfl, rfl⟩ := j2
      rw [j1, List.length_append] at hpr
      have hz : ((parts dn ++ d2).map Rdr.toD).length < sizeLine := by rw [List.length_map, List.length_append]; omega
      walk_at "R"
      exact ih2 _ _ ⟨d2 ++ [z], r2, by rw [j1]; simp, rfl, by simp, rfl⟩
    · rintro acc ρ ⟨d2, r2, j1, j2, rfl, rfl⟩
      have e0 : r2 = [] := by simpa using j2.symm
      subst e0
      rw [List.append_nil] at j1
      subst j1
      walk_at "R"
      refine ih _ _ ⟨dn ++ [(y, r)], rest, by rw [k1]; simp, rfl, ?_, rfl⟩
      unfold parts
      simp [pres_app, pres]
  · rintro acc ρ ⟨dn, rest, k1, k2, rfl, rfl⟩
    have e0 : rest = [] := by simpa using k2.symm
    subst e0
    rw [List.append_nil] at k1
    subst k1
    walk_at "R"
    exact hP
def strt (y : Str) : Nat → List (Str × Rdr) → Option Nat
  | _, [] => none
  | n, (x, r) :: bk => match strt y (n + r.cnt) bk with
    | some i => some i
    | none => if x = y then some n else none
theorem cntB_nil : cntB [] = 0 := rfl
theorem cntB_cons (x : Str) (r : Rdr) (bk : List (Str × Rdr)) : cntB ((x, r) :: bk) = r.cnt + cntB bk := by
  unfold cntB; rw [List.map_cons, cnts]
theorem cntB_app (a b : List (Str × Rdr)) : cntB (a ++ b) = cntB a + cntB b := by
  unfold cntB; rw [List.map_append, cnts_app]
theorem strt_app (y x : Str) (r : Rdr) : ∀ (dn : List (Str × Rdr)) (n : Nat), strt y n (dn ++ [(x, r)]) = if x = y then some (n + cntB dn) else strt y n dn
  | [], n => by simp [strt, cntB_nil]
  | (z, q) :: dn, n => by
    rw [List.cons_append, strt, strt_app y x r dn (n + q.cnt), cntB_cons]
    by_cases h : x = y
    · simp only [h, if_true, Nat.add_assoc]
    · simp only [h, if_false, strt]
/-- the dict of the beginnings -/
structure NumOk (bk : List (Str × Rdr)) (kvs : List (D × D)) : Prop where
  key : keyed kvs = true
  len : kvs.length ≤ bk.length
  get : ∀ y, dGet kvs (.inr y) = (strt y 0 bk).map fun i : Nat => PyData.int (i : Int)
theorem NumOk.nil : NumOk [] [] := ⟨rfl, Nat.le_refl _, fun y => rfl⟩
theorem NumOk.put {dn : List (Str × Rdr)} {kvs : List (D × D)} (h : NumOk dn kvs) (x : Str) (r : Rdr) : NumOk (dn ++ [(x, r)]) (dPut kvs (.inr x) (.int (cntB dn : Nat))) := by
  refine ⟨keyed_put _ _ _ h.key, ?_, fun y => ?_⟩
  · have := h.len
    rw [len_put, List.length_append]
    simp only [List.length_cons, List.length_nil]
    split <;> omega
  · rw [dGet_put, strt_app, h.get y, Nat.zero_add]
    by_cases e : x = y
    · simp [e]
    · have : ¬ ((.inr x : Key) = .inr y) := fun q => e (Sum.inr.inj q)
      simp only [this, e, if_false]
def c_nums : Ct := fun as P => ∃ bk, as = [.val (bookD bk)] ∧ BkOk bk ∧ ∀ kvs, NumOk bk kvs → P (.own (.K kvs)) [.val (bookD bk)]
theorem use_nums {bk : List (Str × Rdr)} {P : R → List Ar → Prop} (h1 : BkOk bk) (h : ∀ kvs, NumOk bk kvs → P (.own (.K kvs)) [.val (bookD bk)]) : Cl c_nums [.val (bookD bk)] P := ⟨bk, rfl, h1, h⟩
theorem w_nums (as : List Ar) (P : R → List Ar → Prop) (h : c_nums as P) : ctOf 5 (m_numbers_of (c_aw 8)) as P := by
  obtain ⟨bk, rfl, hb, hP⟩ := h
  have sl := sizeLine_eq
  have hc := hb.cnt
  have hl2 := hb.l2
  walk_at "R"
  refine lp_by (fun ds ρ => ∃ (dn rest : List (Str × Rdr)) (kvs : List (D × D)) (s3 s4 : Option D), bk = dn ++ rest ∧ ds = rest.map pairD ∧ NumOk dn kvs ∧ ρ = [some (.val (bookD bk)), some (.box false (.K kvs)), some (.val (.int (cntB dn : Nat))), s3.map Ce.val, s4.map Ce.val]) ⟨[], bk, [], none, none, rfl, rfl, .nil, rfl⟩ ?_ ?_
  · rintro d ds ρ ⟨dn, rest, kvs, s3, s4, k1, k2, k3, rfl⟩ ih
    cases rest with
    | nil => cases k2
    | cons q rest =>
    simp only [List.map_cons, List.cons.injEq] at k2
    obtain ⟨rfl, rfl⟩ := k2
    have hq : q ∈ bk := by rw [k1]; simp
    obtain ⟨y, r⟩ := q
    have hsum : cntB bk = cntB dn + (r.cnt + cntB rest) := by rw [k1, cntB_app, cntB_cons]
    have hlen : bk.length = dn.length + (rest.length + 1) := by rw [k1]; simp
    have hkl := k3.len
    have hpr := pre_len r
    walk_at "R"
    apply strictK_mk
    walk_at "R"
    refine use_aw (hb.dep _ hq) (by omega) ?_
    walk_at "R"
    refine ih _ ⟨dn ++ [(y, r)], rest, _, some (.str y), some r.toD, by rw [k1]; simp, rfl, k3.put y r, ?_⟩
    have e : ((cntB (dn ++ [(y, r)]) : Nat) : Int) = (cntB dn : Int) + (((pre r).map Rdr.toD).length : Int) := by
      rw [cntB_app, cntB_cons, cntB_nil, List.length_map]; omega
    rw [e]
    rfl
  · rintro ρ ⟨dn, rest, kvs, s3, s4, k1, k2, k3, rfl⟩
    have e0 : rest = [] := by simpa using k2.symm
    subst e0
    rw [List.append_nil] at k1
    subst k1
    walk_at "R"
    exact hP _ k3
def noAg (bk : List (Str × Rdr)) : Bool := !((parts bk).any fun r => decide (wordD r = "again"))
def c_isfree : Ct := fun as P => ∃ bk, as = [.val (bookD bk)] ∧ BkOk bk ∧ P (.val (.bool (noAg bk))) [.val (bookD bk)]
theorem use_isfree {bk : List (Str × Rdr)} {P : R → List Ar → Prop} (h1 : BkOk bk) (h : P (.val (.bool (noAg bk))) [.val (bookD bk)]) : Cl c_isfree [.val (bookD bk)] P := ⟨bk, rfl, h1, h⟩
theorem w_isfree (as : List Ar) (P : R → List Ar → Prop) (h : c_isfree as P) : ctOf 2 (m_is_free c_parts) as P := by
  obtain ⟨bk, rfl, hb, hP⟩ := h
  have sl := sizeLine_eq
  have hl := parts_len bk
  have hc := hb.cnt
  walk_at "R"
  refine use_parts hb ?_
  walk_at "R"
  refine lc_list Rdr.toD (fun r => PyData.str (wordD r)) ?_ (by omega) ?_
  · intro r hr ds acc hacc hnext
    obtain ⟨tl, htl⟩ := word_at r
    rw [htl]
    have h0 : atI (PyData.str (wordD r) :: tl) 0 = some (.str (wordD r)) := at_0 _ _
    walk_at "R"
    exact hnext
  · have ew : ((parts bk).map fun r => PyData.str (wordD r)) = ((parts bk).map wordD).map PyData.str := by rw [List.map_map]; rfl
    rw [ew]
    have hff := flatD_strs ((parts bk).map wordD)
    walk_at "R"
    apply rqB.mk
    · rw [hff]; rfl
    rw [flat_strsD]
    have e : (true ^^ decide ((Str.ofString "again") ∈ (parts bk).map wordD)) = noAg bk := by
      unfold noAg
      rw [Bool.true_xor]
      congr 1
      rw [List.any_eq]
      congr 1
      simp [List.mem_map]
    rw [e]
    exact hP
def namesOf (bk : List (Str × Rdr)) : List Str := bk.map (·.1)
theorem strt_none (y : Str) : ∀ (bk : List (Str × Rdr)) (n : Nat), y ∉ namesOf bk → strt y n bk = none
  | [], n, _ => rfl
  | (x, r) :: bk, n, h => by
    simp only [namesOf, List.map_cons, List.mem_cons, not_or] at h
    rw [strt, strt_none y bk _ h.2]
    have : ¬ x = y := fun q => h.1 q.symm
    simp [this]
theorem strt_two (y : Str) (b : List (Str × Rdr)) : ∀ (a : List (Str × Rdr)) (n : Nat), strt y n (a ++ b) = match strt y (n + cntB a) b with
    | some i => some i
    | none => strt y n a
  | [], n => by
    rw [List.nil_append, cntB_nil, Nat.add_zero]
    cases strt y n b <;> rfl
  | (x, r) :: a, n => by
    rw [List.cons_append, strt, strt_two y b a, cntB_cons, Nat.add_assoc, strt]
    cases strt y (n + (r.cnt + cntB a)) b with
    | some i => rfl
    | none => rfl
theorem strt_nd {y : Str} {r : Rdr} {dn rest : List (Str × Rdr)} (h : (namesOf (dn ++ (y, r) :: rest)).Nodup) : strt y 0 (dn ++ (y, r) :: rest) = some (cntB dn) := by
  have hr : y ∉ namesOf rest := by
    unfold namesOf at h ⊢
    rw [List.map_append, List.map_cons] at h
    exact (List.nodup_cons.mp (List.nodup_append.mp h).2.1).1
  rw [strt_two, Nat.zero_add, strt, strt_none y rest _ hr]
  simp
theorem parts_app (a b : List (Str × Rdr)) : parts (a ++ b) = parts a ++ parts b := by
  unfold parts; rw [List.map_append, pres_app]
theorem parts_one (y : Str) (r : Rdr) : parts [(y, r)] = pre r := by
  unfold parts; simp [pres]
mutual
theorem dep_pre : ∀ (r q : Rdr), q ∈ pre r → q.dep ≤ r.dep
  | .l0 w, q, h => by rw [pre, List.mem_singleton] at h; rw [h]; exact Nat.le_refl _
  | .l1 w x, q, h => by rw [pre, List.mem_singleton] at h; rw [h]; exact Nat.le_refl _
  | .ps w rs, q, h => by
    rw [pre, List.mem_cons] at h
    rcases h with rfl | h
    · exact Nat.le_refl _
    · have := dep_pres rs q h
      rw [Rdr.dep]; omega
  | .un w r, q, h => by
    rw [pre, List.mem_cons] at h
    rcases h with rfl | h
    · exact Nat.le_refl _
    · have := dep_pre r q h
      rw [Rdr.dep]; omega
  | .bi w x r, q, h => by
    rw [pre, List.mem_cons] at h
    rcases h with rfl | h
    · exact Nat.le_refl _
    · have := dep_pre r q h
      rw [Rdr.dep]; omega
theorem dep_pres : ∀ (rs : List Rdr) (q : Rdr), q ∈ pres rs → q.dep ≤ deps rs
  | [], q, h => by simp [pres] at h
  | r :: rs, q, h => by
    rw [pres, List.mem_append] at h
    rw [deps]
    rcases h with h | h
    · have := dep_pre r q h; omega
    · have := dep_pres rs q h; omega
end
mutual
theorem cnt_pre : ∀ (r q : Rdr), q ∈ pre r → q.cnt ≤ r.cnt
  | .l0 w, q, h => by rw [pre, List.mem_singleton] at h; rw [h]; exact Nat.le_refl _
  | .l1 w x, q, h => by rw [pre, List.mem_singleton] at h; rw [h]; exact Nat.le_refl _
  | .ps w rs, q, h => by
    rw [pre, List.mem_cons] at h
    rcases h with rfl | h
    · exact Nat.le_refl _
    · have := cnt_pres rs q h
      rw [Rdr.cnt]; omega
  | .un w r, q, h => by
    rw [pre, List.mem_cons] at h
    rcases h with rfl | h
    · exact Nat.le_refl _
    · have := cnt_pre r q h
      rw [Rdr.cnt]; omega
  | .bi w x r, q, h => by
    rw [pre, List.mem_cons] at h
    rcases h with rfl | h
    · exact Nat.le_refl _
    · have := cnt_pre r q h
      rw [Rdr.cnt]; omega
theorem cnt_pres : ∀ (rs : List Rdr) (q : Rdr), q ∈ pres rs → q.cnt ≤ cnts rs
  | [], q, h => by simp [pres] at h
  | r :: rs, q, h => by
    rw [pres, List.mem_append] at h
    rw [cnts]
    rcases h with h | h
    · have := cnt_pre r q h; omega
    · have := cnt_pres rs q h; omega
end
mutual
theorem wf_pre : ∀ (r q : Rdr), q ∈ pre r → r.wf → q.wf
  | .l0 w, q, h, hw => by rw [pre, List.mem_singleton] at h; rw [h]; exact hw
  | .l1 w x, q, h, hw => by rw [pre, List.mem_singleton] at h; rw [h]; exact hw
  | .ps w rs, q, h, hw => by
    rw [pre, List.mem_cons] at h
    rcases h with rfl | h
    · exact hw
    · exact wf_pres rs q h hw.2.2
  | .un w r, q, h, hw => by
    rw [pre, List.mem_cons] at h
    rcases h with rfl | h
    · exact hw
    · exact wf_pre r q h hw
  | .bi w x r, q, h, hw => by
    rw [pre, List.mem_cons] at h
    rcases h with rfl | h
    · exact hw
    · refine wf_pre r q h ?_
      cases w <;> exact hw.2
theorem wf_pres : ∀ (rs : List Rdr) (q : Rdr), q ∈ pres rs → wfs rs → q.wf
  | [], q, h, hw => by simp [pres] at h
  | r :: rs, q, h, hw => by
    rw [pres, List.mem_append] at h
    rcases h with h | h
    · exact wf_pre r q h hw.1
    · exact wf_pres rs q h hw.2
end
theorem pres_mem : ∀ (rs : List Rdr) (q : Rdr), q ∈ pres rs → ∃ r ∈ rs, q ∈ pre r
  | [], q, h => by simp [pres] at h
  | r :: rs, q, h => by
    rw [pres, List.mem_append] at h
    rcases h with h | h
    · exact ⟨r, List.mem_cons_self, h⟩
    · obtain ⟨k, hk, hq⟩ := pres_mem rs q h
      exact ⟨k, List.mem_cons_of_mem _ hk, hq⟩
theorem cnt_mem {bk : List (Str × Rdr)} (hb : BkOk bk) {p : Str × Rdr} (hp : p ∈ bk) : p.2.cnt ≤ 80 := by
  have h1 := hb.cnt
  obtain ⟨a, b, e⟩ := List.append_of_mem hp
  obtain ⟨y, r⟩ := p
  rw [e, cntB_app, cntB_cons] at h1
  show r.cnt ≤ 80
  omega
theorem part_ok {bk : List (Str × Rdr)} (hb : BkOk bk) {q : Rdr} (h : q ∈ parts bk) : q.wf ∧ q.dep ≤ 8 ∧ q.cnt ≤ 80 := by
  obtain ⟨r, hr, hq⟩ := pres_mem _ q h
  obtain ⟨p, hp, rfl⟩ := List.mem_map.mp hr
  have := cnt_mem hb hp
  have := cnt_pre _ q hq
  exact ⟨wf_pre _ q hq (hb.wf p hp), Nat.le_trans (dep_pre _ q hq) (hb.dep p hp), by omega⟩
theorem w_lparts (n : Nat) (as : List Ar) (P : R → List Ar → Prop) (h : c_aw (n + 1) as P) : ctOf 3 (m__law_parts c_within (c_aw n)) as P := by
  obtain ⟨r, rfl, hd, hc, hP⟩ := h
  have sl := sizeLine_eq
  have kd := kids_dep hd
  have hl := pre_len r
  rw [pre_kids, List.length_cons] at hl
  rw [pre_kids] at hP
  walk_at "R"
  refine use_within ?_
  walk_at "R"
  refine lp_by (fun ds ρ => ∃ (dn rest : List Rdr) (s2 : Option D), kids r = dn ++ rest ∧ ds = rest.map Rdr.toD ∧ ρ = [some (.val r.toD), some (.box false (.L ((r :: pres dn).map Rdr.toD))), s2.map Ce.val]) ?_ ?_ ?_
  · exact ⟨[], kids r, none, rfl, rfl, rfl⟩
  · rintro d ds ρ ⟨dn, rest, s2, k1, k2, rfl⟩ ih
    cases rest with
    | nil => cases k2
    | cons q rest =>
    simp only [List.map_cons, List.cons.injEq] at k2
    obtain ⟨rfl, rfl⟩ := k2
    have hq : q ∈ kids r := by rw [k1]; simp
    have hqc := kids_cnt q hq
    rw [k1, pres_app, List.length_append, pres, List.length_append] at hl
    have l1 : ((r :: pres dn).map Rdr.toD).length + ((pre q).map Rdr.toD).length ≤ sizeLine := by rw [List.length_map, List.length_map, List.length_cons]; omega
    walk_at "R"
    refine use_aw (kd q hq) (by omega) ?_
    walk_at "R"
    refine ih _ ⟨dn ++ [q], rest, some q.toD, by rw [k1]; simp, rfl, ?_⟩
    rw [pres_app]
    simp [pres]
  · rintro ρ ⟨dn, rest, s2, k1, k2, rfl⟩
    have e0 : rest = [] := by simpa using k2.symm
    subst e0
    rw [List.append_nil] at k1
    rw [k1] at hP
    walk_at "R"
    exact hP
theorem repr_book {bk : List (Str × Rdr)} (hb : BkOk bk) : reprOk (bookD bk) = true := by
  have k : ∀ d ∈ bk.map pairD, okD d ∧ wt d ≤ 200000 ∧ d.depth ≤ 17 ∧ d.hasDict = false := by
    intro d hd
    rw [List.mem_map] at hd
    obtain ⟨p, hp, rfl⟩ := hd
    have t1 := (hb.nm p hp).ok
    have t2 := (hb.wf p hp).good
    have a1 := Rdr.okD p.2 t2
    have a2 := Rdr.wt p.2 t2
    have a3 := Rdr.depth p.2
    have a4 := Rdr.noDict p.2
    have a5 := t1.1
    have a6 := hb.dep p hp
    have a7 : p.2.cnt ≤ 80 := by
      have h1 := hb.cnt
      obtain ⟨a, b, e⟩ := List.append_of_mem hp
      obtain ⟨y, r⟩ := p
      rw [e, cntB_app, cntB_cons] at h1
      show r.cnt ≤ 80
      omega
    have a8 : (10 * 94 + 110) * p.2.cnt ≤ (10 * 94 + 110) * 80 := Nat.mul_le_mul_left _ a7
    refine ⟨⟨t1.2, a1, trivial⟩, ?_, ?_, ?_⟩
    · simp only [pairD, wt, wts]
      omega
    · simp only [pairD, PyData.depth, PyData.depthAll]
      omega
    · simp [pairD, PyData.hasDict, PyData.hasDictAll, a4]
  refine repr_ok (okDs_iff.mpr fun d hd => (k d hd).1) ?_ ?_ ?_
  · have := wts_le (n := 200000) fun d hd => (k d hd).2.1
    have hl := hb.l2
    rw [List.length_map] at this
    have h8 : bk.length * (200000 + 2) ≤ 8 * (200000 + 2) := Nat.mul_le_mul_right _ hl
    show wts (bk.map pairD) + 4 ≤ _
    omega
  · have := (depthAll_le (n := 17)).mpr fun d hd => (k d hd).2.2.1
    show PyData.depthAll (bk.map pairD) + 1 ≤ 64
    omega
  · exact hasDictAll_iff.mpr fun d hd => (k d hd).2.2.2
theorem repr_parts {rs : List Rdr} (hl : rs.length ≤ 80) (h : ∀ q ∈ rs, q.wf ∧ q.dep ≤ 8 ∧ q.cnt ≤ 80) : reprOk (.list (rs.map Rdr.toD)) = true := by
  have k : ∀ d ∈ rs.map Rdr.toD, okD d ∧ wt d ≤ 100000 ∧ d.depth ≤ 30 := by
    intro d hd
    obtain ⟨q, hq, rfl⟩ := List.mem_map.mp hd
    obtain ⟨h1, h2, h3⟩ := h q hq
    have a2 := Rdr.wt q h1.good
    have a3 := Rdr.depth q
    have a8 : (10 * 94 + 110) * q.cnt ≤ (10 * 94 + 110) * 80 := Nat.mul_le_mul_left _ h3
    exact ⟨Rdr.okD q h1.good, by omega, by omega⟩
  refine repr_ok (okDs_iff.mpr fun d hd => (k d hd).1) ?_ ?_ ?_
  · have := wts_le (n := 100000) fun d hd => (k d hd).2.1
    rw [List.length_map] at this
    have h8 : rs.length * (100000 + 2) ≤ 80 * (100000 + 2) := Nat.mul_le_mul_right _ hl
    show wts (rs.map Rdr.toD) + 4 ≤ _
    omega
  · have := (depthAll_le (n := 30)).mpr fun d hd => (k d hd).2.2
    show PyData.depthAll (rs.map Rdr.toD) + 1 ≤ 64
    omega
  · exact hasDictAll_iff.mpr fun d hd => by obtain ⟨r, _, rfl⟩ := List.mem_map.mp hd; exact Rdr.noDict r
end L06
namespace L06
open PySem L2 PyProof.Rows DL
local macro_rules | `(tactic| walk_at "G") => `(tactic| ((conv => whnf); try dsimp only [DL.MB.toD, DL.cellOf]))
local macro_rules | `(tactic| walk_at "O") => `(tactic| first | assumption | omega | (refine ⟨?_, ?_⟩ <;> first | assumption | omega) | (simp only [DL.app_len]; omega) | (simp only [List.length_append, List.length_cons, List.length_nil, List.length_map]; omega))
local macro_rules | `(tactic| walk_at "P") => `(tactic| first | omega | (simp only [List.length_map]; omega))
local macro_rules | `(tactic| walk_at "R") => `(tactic| (walk_at "G"; repeat ((first | (apply DL.Rq.mk; (· walk_at "O")) | (apply DL.on_i; (· assumption)) | (apply DL.rqB.mk; (· exact DL.okR_of (by walk_at "P") (by walk_at "P"))) | (apply DL.rqB.mk; (· exact DL.okR2_of (by walk_at "P") (by walk_at "P") (by walk_at "P") (by walk_at "P")))); walk_at "G")))
local macro_rules | `(tactic| walk_at "N") => `(tactic| (walk_at "R"; repeat ((first | (refine And.intro rfl ?_) | (refine And.intro (of_decide_eq_true rfl) ?_) | (refine And.intro (by decide) ?_)); walk_at "R")))
structure Bk6 (bk : List (Str × Rdr)) : Prop where
  nd : (namesOf bk).Nodup
  ok : BkOk bk
  l1 : 1 ≤ bk.length
def c_bk6 : Ct := fun as P => ∃ pen most b, as = [.box (.L pen), .val (.int most)] ∧ 8 ≤ most ∧ most ≤ 80 ∧ PenOk (b + 10000000000) pen ∧ ∀ bk pen', Bk6 bk → PenOk b pen' → P (.val (bookD bk)) [.box (.L pen'), .val (.int most)]
theorem use_bk6 {pen : List D} {most : Int} {b : Nat} {P : R → List Ar → Prop} (h1 : 8 ≤ most) (h2 : most ≤ 80) (hp : PenOk (b + 10000000000) pen) (h : ∀ bk pen', Bk6 bk → PenOk b pen' → P (.val (bookD bk)) [.box (.L pen'), .val (.int most)]) : Cl c_bk6 [.box (.L pen), .val (.int most)] P := ⟨pen, most, b, rfl, h1, h2, hp, h⟩
theorem w_bk6 (as : List Ar) (P : R → List Ar → Prop) (h : c_bk6 as P) : ctOf 5 (m__law_book c_names c_draw (c_rd 8)) as P := by
  obtain ⟨pen, most, b, rfl, hm1, hm2, hp, hP⟩ := h
  have sl := sizeLine_eq
  have hc8 := cost_8
  have hc := cost_ge 8
  generalize hC : cost 8 = C at *
  replace hp : PenOk (b + 200 + 8 * (C + 1)) pen := hp.mono (by omega)
  generalize hT : 8 * (C + 1) = T at hp
  walk_at "R"
  refine use_draw (b := b + 199 + T) (hp.mono (by omega)) (by split <;> omega) (by split <;> omega) fun v1 pen1 a1 a2 hp1 => ?_
  walk_at "R"
  refine use_names (b := b + 150 + T) (by omega) (by split at a2 <;> omega) (hp1.mono (by omega)) fun names pen2 nl nd nn hp2 => ?_
  have nm : NmsOk names := ⟨by intro e; subst e; simp at nl; omega, by split at a2 <;> omega, nn⟩
  have n8 := nm.2.1
  walk_at "R"
  refine use_draw (b := b + 149 + T) (hp2.mono (by omega)) (by rw [List.length_map]; omega) (by rw [List.length_map]; omega) fun v2 pen3 b1 b2 hp3 => ?_
  walk_at "R"
  refine use_draw (b := b + 148 + T) (hp3.mono (by omega)) (by omega) (by omega) fun v3 pen4 c1 c2 hp4 => ?_
  obtain ⟨_, hat, u, rfl, u1, u2⟩ := at_all (ds := [PyData.int (most - ((names.map PyData.str).length : Int)), PyData.int v2]) (v := v3) (fun d => ∃ s, d = .int s ∧ 0 ≤ s ∧ s ≤ most - names.length) c1 c2 (by
    intro d hd
    simp only [List.mem_cons, List.not_mem_nil, or_false] at hd
    rcases hd with rfl | rfl
    · exact ⟨_, rfl, by rw [List.length_map]; omega, by rw [List.length_map]; omega⟩
    · exact ⟨_, rfl, b1, by rw [List.length_map] at b2; omega⟩)
  walk_at "R"
  refine lcc_by (fun ds acc r => ∃ (pen : List D) (w : Int) (bk : List (Str × Rdr)) (rest : List Str), r = [some (.box true (.L pen)), some (.val (.int most)), some (.val (.list (names.map PyData.str))), some (.box false (.L [.int w])), none] ∧ ds = rest.map PyData.str ∧ names = namesOf bk ++ rest ∧ acc = bk.map pairD ∧ (∀ p ∈ bk, Wn names p.2 ∧ p.2.dep ≤ 8) ∧ 0 ≤ w ∧ ((cntB bk : Nat) : Int) ≤ (bk.length : Int) + u - w ∧ PenOk (b + (C + 1) * rest.length) pen) ?_ ?_ ?_
  · refine ⟨pen4, u, [], names, rfl, rfl, rfl, rfl, fun p hp => (nomatch hp), u1, by show (0 : Int) ≤ (0 : Nat) + u - u; omega, hp4.mono ?_⟩
    have : (C + 1) * names.length ≤ (C + 1) * 8 := Nat.mul_le_mul_left _ n8
    omega
  · rintro d ds acc r ⟨pen3, w, bk, rest, rfl, k1, k2, rfl, k4, k5, k6, k7⟩ ih
    cases rest with
    | nil => cases k1
    | cons y rest =>
    simp only [List.map_cons, List.cons.injEq] at k1
    obtain ⟨rfl, rfl⟩ := k1
    simp only [List.length_cons, Nat.mul_succ] at k7
    have hbl : bk.length + (rest.length + 1) = names.length := by
      have := congrArg List.length k2
      rw [List.length_append] at this
      simp only [namesOf, List.length_map, List.length_cons] at this
      omega
    have hl' : (bk.map pairD).length < sizeLine := by rw [List.length_map]; omega
    walk_at "R"
    refine use_draw (b := b + (C + 1) * rest.length + C) (k7.mono (by omega)) (by omega) (by omega) fun v pen4 c1 c2 hp4 => ?_
    walk_at "R"
    refine use_rd (b := b + (C + 1) * rest.length) nm (by omega) (by omega) k5 (by omega) (by rw [hC]; exact hp4) fun r pen5 u2 g1 g2 g3 g4 hp5 => ?_
    walk_at "R"
    refine ih _ _ ⟨pen5, u2, bk ++ [(y, r)], rest, rfl, rfl, by rw [k2]; simp [namesOf], by rw [List.map_append]; rfl, ?_, g3, ?_, hp5⟩
    · intro p hp
      rcases List.mem_append.mp hp with hp | hp
      · exact k4 p hp
      · rw [List.mem_singleton.mp hp]; exact ⟨g1, g2⟩
    · rw [cntB_app, cntB_cons, cntB_nil, List.length_append, List.length_singleton]; omega
  · rintro acc r ⟨pen3, w, bk, rest, rfl, k1, k2, rfl, k4, k5, k6, k7⟩
    have e0 : rest = [] := by simpa using k1.symm
    subst e0
    rw [List.append_nil] at k2
    have hbl : bk.length = names.length := by
      have := congrArg List.length k2
      simp only [namesOf, List.length_map] at this
      omega
    have gd : Bk6 bk := ⟨by rw [← k2]; exact nd, ⟨by omega, fun p hp => nn _ (by rw [k2]; exact List.mem_map_of_mem hp), fun p hp => (k4 p hp).1.1, fun p hp => (k4 p hp).2, by omega⟩, by omega⟩
    walk_at "R"
    refine hP bk pen3 gd (k7.mono (by omega))
def c_partof : Ct := fun as P => ∃ bk d i, as = [.val (bookD bk), .val d] ∧ BkOk bk ∧ ((d = .none ∧ i = 0) ∨ ∃ y, d = .str y ∧ strt y 0 bk = some i) ∧ P (.val (.int ((i : Nat) : Int))) [.val (bookD bk), .val d]
theorem use_partof {bk : List (Str × Rdr)} {y : Str} {i : Nat} {P : R → List Ar → Prop} (h1 : BkOk bk) (h2 : strt y 0 bk = some i) (h : P (.val (.int (i : Int))) [.val (bookD bk), .val (.str y)]) : Cl c_partof [.val (bookD bk), .val (.str y)] P := ⟨bk, _, i, rfl, h1, .inr ⟨y, rfl, h2⟩, h⟩
theorem use_part0 {bk : List (Str × Rdr)} {P : R → List Ar → Prop} (h1 : BkOk bk) (h : P (.val (.int 0)) [.val (bookD bk), .val .none]) : Cl c_partof [.val (bookD bk), .val .none] P := ⟨bk, _, 0, rfl, h1, .inl ⟨rfl, rfl⟩, h⟩
theorem w_partof (as : List Ar) (P : R → List Ar → Prop) (h : c_partof as P) : ctOf 3 (m_part_of c_nums) as P := by
  obtain ⟨bk, d, i, rfl, hb, hi, hP⟩ := h
  have sl := sizeLine_eq
  walk_at "R"
  refine use_nums hb fun kvs hk => ?_
  rcases hi with ⟨rfl, rfl⟩ | ⟨y, rfl, hi⟩
  · walk_at "R"
    exact hP
  · have hg : dGet kvs (.inr y) = some (.int (i : Int)) := by rw [hk.get y, hi]; rfl
    walk_at "R"
    rw [hg]
    walk_at "R"
    apply rqB.mk hk.key
    walk_at "R"
    exact hP
def cx_partof : CtX := fun as P => ∃ bk d, as = [.val (bookD bk), .val d] ∧ BkOk bk ∧ d ≠ .none ∧ (∀ y, d = .str y → strt y 0 bk = none) ∧ P "Unknown" [("name", d)]
theorem usex_partof {bk : List (Str × Rdr)} {d : D} {P : Str → List (Str × D) → Prop} (h1 : BkOk bk) (h2 : d ≠ .none) (h3 : ∀ y, d = .str y → strt y 0 bk = none) (h : P "Unknown" [("name", d)]) : ClX cx_partof [.val (bookD bk), .val d] P := ⟨bk, d, rfl, h1, h2, h3, h⟩
theorem wx_partof (as : List Ar) (P : Str → List (Str × D) → Prop) (h : cx_partof as P) : ctX 3 (mx_part_of c_nums) as P := by
  obtain ⟨bk, d, rfl, hb, hd, hi, hP⟩ := h
  have sl := sizeLine_eq
  walk_at "R"
  refine use_nums hb fun kvs hk => ?_
  cases d with
  | none => exact absurd rfl hd
  | str y =>
    have hg : dGet kvs (.inr y) = none := by rw [hk.get y, hi y rfl]; rfl
    walk_at "R"
    rw [hg]
    walk_at "R"
    exact ⟨rfl, hP⟩
  | _ => walk_at "R"; exact ⟨rfl, hP⟩
end L06
namespace L06
open PySem L2 PyProof.Rows DL
local macro_rules | `(tactic| walk_at "G") => `(tactic| ((conv => whnf); try dsimp only [DL.MB.toD, DL.cellOf]))
local macro_rules | `(tactic| walk_at "O") => `(tactic| first | assumption | omega | (refine ⟨?_, ?_⟩ <;> first | assumption | omega) | (simp only [DL.app_len]; omega) | (simp only [List.length_append, List.length_cons, List.length_nil, List.length_map]; omega))
local macro_rules | `(tactic| walk_at "P") => `(tactic| first | omega | (simp only [List.length_map]; omega))
local macro_rules | `(tactic| walk_at "R") => `(tactic| (walk_at "G"; repeat ((first | (apply DL.Rq.mk; (· walk_at "O")) | (apply DL.on_i; (· assumption)) | (apply DL.rqB.mk; (· exact DL.okR_of (by walk_at "P") (by walk_at "P"))) | (apply DL.rqB.mk; (· exact DL.okR2_of (by walk_at "P") (by walk_at "P") (by walk_at "P") (by walk_at "P")))); walk_at "G")))
local macro_rules | `(tactic| walk_at "N") => `(tactic| (walk_at "R"; repeat ((first | (refine And.intro rfl ?_) | (refine And.intro (of_decide_eq_true rfl) ?_) | (refine And.intro (by decide) ?_)); walk_at "R")))
def c_ref6 : Ct := fun as P => ∃ bk d, as = [.val (bookD bk), .val d] ∧ BkOk bk ∧ d ≠ .none ∧ (∀ y, d = .str y → strt y 0 bk = none) ∧ reprOk d = true ∧ P (.val (.bool true)) [.val (bookD bk), .val d]
theorem use_ref6 {bk : List (Str × Rdr)} {d : D} {P : R → List Ar → Prop} (h1 : BkOk bk) (h2 : d ≠ .none) (h3 : ∀ y, d = .str y → strt y 0 bk = none) (h4 : reprOk d = true) (h : P (.val (.bool true)) [.val (bookD bk), .val d]) : Cl c_ref6 [.val (bookD bk), .val d] P := ⟨bk, d, rfl, h1, h2, h3, h4, h⟩
theorem w_ref6 (as : List Ar) (P : R → List Ar → Prop) (h : c_ref6 as P) : ctOf 4 (m__law_refused c_partof cx_partof) as P := by
  obtain ⟨bk, d, rfl, hb, hd, hi, hr, hP⟩ := h
  have sl := sizeLine_eq
  walk_at "R"
  right
  walk_at "R"
  refine usex_partof hb hd hi ?_
  walk_at "R"
  apply rqB.mk hr
  walk_at "R"
  rw [hr]
  walk_at "R"
  have hb2 : decide (PyData.shown d = PyData.shown d) = true := decide_eq_true rfl
  rw [hb2]
  walk_at "R"
  exact hP
end L06
namespace L06
open PySem L2 PyProof.Rows DL
local macro_rules | `(tactic| walk_at "G") => `(tactic| ((conv => whnf); try dsimp only [DL.MB.toD, DL.cellOf]))
local macro_rules | `(tactic| walk_at "O") => `(tactic| first | assumption | omega | (refine ⟨?_, ?_⟩ <;> first | assumption | omega) | (simp only [DL.app_len]; omega) | (simp only [List.length_append, List.length_cons, List.length_nil, List.length_map]; omega))
local macro_rules | `(tactic| walk_at "P") => `(tactic| first | omega | (simp only [List.length_map]; omega))
local macro_rules | `(tactic| walk_at "R") => `(tactic| (walk_at "G"; repeat ((first | (apply DL.Rq.mk; (· walk_at "O")) | (apply DL.on_i; (· assumption)) | (apply DL.rqB.mk; (· exact DL.okR_of (by walk_at "P") (by walk_at "P"))) | (apply DL.rqB.mk; (· exact DL.okR2_of (by walk_at "P") (by walk_at "P") (by walk_at "P") (by walk_at "P")))); walk_at "G")))
local macro_rules | `(tactic| walk_at "N") => `(tactic| (walk_at "R"; repeat ((first | (refine And.intro rfl ?_) | (refine And.intro (of_decide_eq_true rfl) ?_) | (refine And.intro (by decide) ?_)); walk_at "R")))
def startsOf : Nat → List (Str × Rdr) → List Nat
  | _, [] => []
  | n, p :: bk => n :: startsOf (n + p.2.cnt) bk
theorem startsOf_app : ∀ (a b : List (Str × Rdr)) (n : Nat), startsOf n (a ++ b) = startsOf n a ++ startsOf (n + cntB a) b
  | [], b, n => by simp [startsOf, cntB_nil]
  | (x, r) :: a, b, n => by
    rw [List.cons_append, startsOf, startsOf_app a b, cntB_cons, startsOf, List.cons_append, Nat.add_assoc]
theorem startsOf_len : ∀ (a : List (Str × Rdr)) (n : Nat), (startsOf n a).length = a.length
  | [], _ => rfl
  | (x, r) :: a, n => by rw [startsOf, List.length_cons, startsOf_len a, List.length_cons]
def natD (l : List Nat) : List D := l.map fun i : Nat => PyData.int (i : Int)
/-- the number of a name -/
def nu (bk : List (Str × Rdr)) (y : Str) : Nat := (strt y 0 bk).getD 0
theorem nu_at {bk dn rest : List (Str × Rdr)} {y : Str} {r : Rdr} (h : (namesOf bk).Nodup) (e : bk = dn ++ (y, r) :: rest) : strt y 0 bk = some (nu bk y) ∧ nu bk y = cntB dn := by
  subst e
  have z := strt_nd h
  unfold nu
  rw [z]
  exact ⟨rfl, rfl⟩
theorem starts_nu : ∀ (bk rest dn : List (Str × Rdr)), bk = dn ++ rest → (namesOf bk).Nodup → startsOf (cntB dn) rest = rest.map fun p => nu bk p.1
  | _, [], _, _, _ => rfl
  | bk, (y, r) :: rest, dn, e, h => by
    have ih := starts_nu bk rest (dn ++ [(y, r)]) (by rw [e]; simp) h
    rw [cntB_app, cntB_cons, cntB_nil, Nat.add_zero] at ih
    rw [startsOf, List.map_cons, ih, (nu_at h e).2]
theorem shaped_nats (l : List Nat) : SeqAt.shaped (.list (natD l)) = true := by
  have := shaped_ints (l.map fun i : Nat => (i : Int))
  rw [List.map_map] at this
  exact this
theorem filt_emp {α : Type} (p : α → Bool) (l : List α) : (l.filter p).isEmpty = !(l.any p) := by
  induction l with
  | nil => rfl
  | cons a l ih =>
    rw [List.any_cons]
    cases h : p a with
    | true => rw [List.filter_cons_of_pos h]; rfl
    | false => rw [List.filter_cons_of_neg (by simp [h]), ih]; rfl
theorem at_neg {ds : List D} (p : D → Prop) (h1 : 1 ≤ ds.length) (h : ∀ d ∈ ds, p d) : ∃ d, atI ds (-1) = some d ∧ p d := by
  obtain ⟨d, hd⟩ : ∃ d, ds[ds.length - 1]? = some d := ⟨_, List.getElem?_eq_getElem (by omega)⟩
  refine ⟨d, ?_, h d (List.mem_of_getElem? hd)⟩
  have e : ixN ds.length (-1) = some (ds.length - 1) := by
    unfold ixN
    rw [if_neg (by omega), if_pos (by omega)]
    congr 1
    omega
  unfold atI
  rw [e]
  exact hd
def Wr (d : D) : Prop := d ≠ .none ∧ reprOk d = true
theorem wr_str {x : Str} {n : Nat} (hn : n ≤ 100) (h1 : x.length ≤ n) (h2 : okS x) : Wr (.str x) := ⟨(fun e => nomatch e), repr_ok (d := .str x) h2 (by simp only [wt]; omega) (by simp [PyData.depth]) rfl⟩
theorem nats_noDict (l : List Nat) : (PyData.list (natD l)).hasDict = false := hasDictAll_iff.mpr fun d hd => by obtain ⟨r, _, rfl⟩ := List.mem_map.mp hd; rfl
def c_law : Ct := fun as P => ∃ ns : List Int, as = [.scr ns] ∧ P (.val (.bool true)) [.scr ns]
theorem law_ok (ns : List Int) (h : ns.length ≤ 63) : c_law [.scr ns] fun y _ => y = .val (.bool true) := ⟨ns, rfl, rfl⟩
theorem w_law (as : List Ar) (P : R → List Ar → Prop) (h : c_law as P) : ctOf 15 (m_law c_bk6 c_draw (c_aw 8) c_parts c_partof c_isfree c_ref6) as P := by
  obtain ⟨ns, rfl, hP⟩ := h
  have sl := sizeLine_eq
  have rb : ∀ b : Bool, reprOk (.bool b) = true := by intro b; cases b <;> decide +kernel
  walk_at "R"
  refine lp_by (fun ds ρ => ∃ (pen : List D) (s2 s3 s4 s5 s6 s7 s8 s9 s11 s13 s14 : Option Ce), ρ = [some (.scr ns), some (.box false (.L pen)), s2, s3, s4, s5, s6, s7, s8, s9, none, s11, none, s13, s14] ∧ ds.length ≤ 6 ∧ PenOk (100000000000 * ds.length) pen) ?_ ?_ ?_
  · refine ⟨_, _, _, _, _, _, _, _, _, _, _, _, rfl, by rw [range_len]; decide, pen_start.mono (by rw [range_len]; decide)⟩
  · rintro d ds ρ ⟨pen, s2, s3, s4, s5, s6, s7, s8, s9, s11, s13, s14, rfl, hl, hp⟩ ih
    rw [List.length_cons] at hl hp
    walk_at "R"
    refine use_draw (b := 100000000000 * ds.length + 99999999999) (hp.mono (by omega)) (by omega) (by omega) fun v1 pen1 a1 a2 hp1 => ?_
    obtain ⟨_, hat, most, rfl, m1, m2⟩ := at_all (ds := [PyData.int 80, PyData.int 20, PyData.int 9]) (v := v1) (fun d => ∃ s, d = .int s ∧ 8 ≤ s ∧ s ≤ 80) a1 a2 (by
      intro d hd
      simp only [List.mem_cons, List.not_mem_nil, or_false] at hd
      rcases hd with rfl | rfl | rfl <;> exact ⟨_, rfl, by omega, by omega⟩)
    walk_at "R"
    refine use_bk6 (b := 100000000000 * ds.length) m1 m2 (hp1.mono (by omega)) fun bk pen2 gb hp2 => ?_
    have rbk := repr_book gb.ok
    have hl2 := gb.ok.l2
    have hcb := gb.ok.cnt
    have hpl := parts_len bk
    have rpr := repr_parts (rs := parts bk) (by omega) fun q hq => part_ok gb.ok hq
    have NUE : bk.map (fun p => PyData.int ((nu bk p.1 : Nat) : Int)) = natD (startsOf 0 bk) := by
      have := starts_nu bk bk [] rfl gb.nd
      rw [cntB_nil] at this
      unfold natD
      rw [this, List.map_map]; rfl
    have NUF : ∀ p ∈ bk, strt p.1 0 bk = some (nu bk p.1) := fun p hp => by
      obtain ⟨a, b, e⟩ := List.append_of_mem hp
      obtain ⟨y, r⟩ := p
      exact (nu_at gb.nd e).1
    have NML : ∀ d ∈ bk.map fun p : Str × Rdr => PyData.str p.1, ∃ y, d = .str y ∧ Tx 8 y := fun d hd => by
      obtain ⟨p, hp, rfl⟩ := List.mem_map.mp hd
      exact ⟨_, rfl, (gb.ok.nm p hp).ok⟩
    walk_at "R"
    apply rqB.mk rbk
    walk_at "R"
    refine lp_by (fun ds' ρ => ∃ (dn rest : List (Str × Rdr)) (s7 s8 : Option Ce), ρ = [some (.scr ns), some (.box false (.L pen2)), some (.val d), some (.val (bookD bk)), some (.val (.str (bookD bk).shown)), some (.box false (.L ((parts dn).map Rdr.toD))), some (.box false (.L (natD (startsOf 0 dn)))), s7, s8, s9, none, s11, none, s13, s14] ∧ bk = dn ++ rest ∧ ds' = rest.map pairD) ⟨[], bk, _, _, rfl, rfl, rfl⟩ ?_ ?_
    · rintro d' ds' ρ ⟨dn, rest, s7, s8, rfl, k1, k2⟩ ih2
      cases rest with
      | nil => cases k2
      | cons q rest =>
      simp only [List.map_cons, List.cons.injEq] at k2
      obtain ⟨rfl, rfl⟩ := k2
      have hq : q ∈ bk := by rw [k1]; simp
      obtain ⟨y, r⟩ := q
      have hsum : cntB bk = cntB dn + (r.cnt + cntB rest) := by rw [k1, cntB_app, cntB_cons]
      have hlen : bk.length = dn.length + (rest.length + 1) := by rw [k1]; simp
      have hpd := parts_len dn
      have hpr := pre_len r
      have l0 : (natD (startsOf 0 dn)).length < sizeLine := by unfold natD; rw [List.length_map, startsOf_len]; omega
      have l1 : ((parts dn).map Rdr.toD).length + ((pre r).map Rdr.toD).length ≤ sizeLine := by rw [List.length_map, List.length_map]; omega
      walk_at "R"
      refine use_aw (gb.ok.dep _ hq) (by omega) ?_
      walk_at "R"
      refine ih2 _ ⟨dn ++ [(y, r)], rest, some (.val (.str y)), some (.val r.toD), ?_, by rw [k1]; simp, rfl⟩
      have e1 : natD (startsOf 0 (dn ++ [(y, r)])) = natD (startsOf 0 dn) ++ [.int (((parts dn).map Rdr.toD).length : Int)] := by
        unfold natD
        rw [startsOf_app, List.map_append, List.length_map, hpd]
        simp [startsOf]
      have e2 : (parts (dn ++ [(y, r)])).map Rdr.toD = (parts dn).map Rdr.toD ++ (pre r).map Rdr.toD := by rw [parts_app, parts_one, List.map_append]
      rw [e1, e2]
    · rintro ρ ⟨dn, rest, s7, s8, rfl, k1, k2⟩
      have e0 : rest = [] := by simpa using k2.symm
      subst e0
      rw [List.append_nil] at k1
      subst k1
      walk_at "R"
      refine use_parts gb.ok ?_
      apply rqB.mk rpr
      walk_at "R"
      rw [rpr]
      walk_at "R"
      apply br_nd <;> intro hd
      · exact (hd rfl).elim
      walk_at "R"
      refine use_parts gb.ok ?_
      walk_at "R"
      apply rqB.mk rpr
      walk_at "R"
      rw [rpr]
      walk_at "R"
      apply br_nd <;> intro hd
      · exact (hd rfl).elim
      walk_at "R"
      (refine lc_list pairD (fun p => PyData.int ((nu bk p.1 : Nat) : Int)) ?_ (by omega) ?_; (· intro p hp' ds2 acc hacc hnx; obtain ⟨y, r⟩ := p; have hn := NUF _ hp'; walk_at "R"; refine use_partof gb.ok hn ?_; walk_at "R"; exact hnx); rw [NUE]; walk_at "R"; apply rqB.mk; (· rw [shaped_nats]; rfl); rw [eqv_self _ (nats_noDict _)]; walk_at "R")
      walk_at "R"
      (refine lc_list pairD (fun p => PyData.int ((nu bk p.1 : Nat) : Int)) ?_ (by omega) ?_; (· intro p hp' ds2 acc hacc hnx; obtain ⟨y, r⟩ := p; have hn := NUF _ hp'; walk_at "R"; refine use_partof gb.ok hn ?_; walk_at "R"; exact hnx); rw [NUE]; walk_at "R"; apply rqB.mk; (· rw [shaped_nats]; rfl); rw [eqv_self _ (nats_noDict _)]; walk_at "R")
      walk_at "R"
      refine use_part0 gb.ok ?_
      walk_at "R"
      refine use_part0 gb.ok ?_
      walk_at "R"
      refine lcc_by (fun ds' acc ρ => ∃ dn rest : List Rdr, parts bk = dn ++ rest ∧ ds' = rest.map Rdr.toD ∧ acc = (dn.filter fun r => decide (wordD r = "again")).map Rdr.toD ∧ ρ = [some (.scr ns), some (.box false (.L pen2)), some (.val d), some (.val (bookD bk)), some (.val (.str (bookD bk).shown)), some (.val (.list ((parts bk).map Rdr.toD))), some (.box false (.L (natD (startsOf 0 bk)))), s7, s8, some (.box false (.L [])), none, s11, none, s13, s14]) ⟨[], parts bk, rfl, rfl, rfl, rfl⟩ ?_ ?_
      · rintro d' ds' acc ρ ⟨dn, rest, k1, k2, rfl, rfl⟩ ih3
        cases rest with
        | nil => cases k2
        | cons q rest =>
        simp only [List.map_cons, List.cons.injEq] at k2
        obtain ⟨rfl, rfl⟩ := k2
        have hl80 : dn.length + (rest.length + 1) = (parts bk).length := by rw [k1]; simp
        have hfl := List.length_filter_le (fun r => decide (wordD r = "again")) dn
        have hacc : ((dn.filter fun r => decide (wordD r = "again")).map Rdr.toD).length < sizeLine := by rw [List.length_map]; omega
        obtain ⟨tl, htl⟩ := word_at q
        have h0 : atI (PyData.str (wordD q) :: tl) 0 = some (.str (wordD q)) := at_0 _ _
        have nx : ∀ acc', acc' = ((dn ++ [q]).filter fun r => decide (wordD r = "again")).map Rdr.toD → _ := fun acc' e => ih3 acc' _ ⟨dn ++ [q], rest, by rw [k1]; simp, rfl, e, rfl⟩
        rw [List.filter_append, List.map_append] at nx
        rw [htl]
        walk_at "R"
        apply br_d <;> intro hd
        · walk_at "R"
          refine nx _ ?_
          rw [List.filter_cons_of_pos (by simpa using hd)]
          simp [htl]
        · walk_at "R"
          refine nx _ ?_
          rw [List.filter_cons_of_neg (by simpa using hd)]
          simp
      · rintro acc ρ ⟨dn, rest, k1, k2, rfl, rfl⟩
        have e0 : rest = [] := by simpa using k2.symm
        subst e0
        rw [List.append_nil] at k1
        subst k1
        have efr : (((parts bk).filter fun r => decide (wordD r = "again")).map Rdr.toD).isEmpty = noAg bk := by
          unfold noAg
          rw [← filt_emp]
          cases (parts bk).filter fun r => decide (wordD r = "again") <;> rfl
        walk_at "R"
        rw [efr]
        walk_at "R"
        refine use_isfree gb.ok ?_
        walk_at "R"
        apply rqB.mk (rb _)
        walk_at "R"
        rw [rb]
        walk_at "R"
        apply br_nd <;> intro hd
        · exact (hd rfl).elim
        walk_at "R"
        refine use_isfree gb.ok ?_
        walk_at "R"
        apply rqB.mk (rb _)
        walk_at "R"
        rw [rb]
        walk_at "R"
        apply br_nd <;> intro hd
        · exact (hd rfl).elim
        walk_at "R"
        apply rqB.mk rbk
        walk_at "R"
        apply br_nd <;> intro hd
        · exact (hd rfl).elim
        walk_at "R"
        refine lc_list pairD (fun p => PyData.str p.1) ?_ (by omega) ?_
        · intro p hp' ds2 acc hacc hnx
          obtain ⟨y, r⟩ := p
          walk_at "R"
          exact hnx
        have hb1 := gb.l1
        obtain ⟨_, ha0, y0, rfl, n0⟩ := at_all (ds := bk.map fun p : Str × Rdr => PyData.str p.1) (v := 0) (fun d => ∃ y, d = .str y ∧ Tx 8 y) (by omega) (by rw [List.length_map]; omega) NML
        obtain ⟨_, ha1, y1, rfl, n1⟩ := at_neg (ds := bk.map fun p : Str × Rdr => PyData.str p.1) (fun d => ∃ y, d = .str y ∧ Tx 8 y) (by rw [List.length_map]; omega) NML
        have c1 := cutS_len y1 (some 1) none
        have hy1 : y1.length ≤ sizeLine := by have := n1.1; omega
        have t0 : Wr (.str (y0 ++ Str.ofString "q")) := wr_str (n := 9) (by decide) (by have := n0.1; rw [app_len]; show y0.length + 1 ≤ 9; omega) fun c hc => by
          rw [app_list] at hc
          rcases List.mem_append.mp hc with hc | hc
          · exact n0.2 c hc
          · rw [show (Str.ofString "q").cps.toList = [113] by decide +kernel, List.mem_singleton] at hc
            omega
        have t1 : Wr (.str (cutS y1 (some 1) none)) := wr_str (n := 9) (by decide) (by have := n1.1; omega) fun c hc => by
          rw [show cutS y1 (some 1) none = cutS y1 (some ((1 : Nat) : Int)) none from rfl, cutS_lo] at hc
          exact n1.2 c (List.mem_of_mem_drop hc)
        have hq : y0.length + (Str.ofString "q").length ≤ sizeLine := by have := n0.1; show y0.length + 1 ≤ _; omega
        walk_at "R"
        refine lp_by (fun ds' ρ => ∃ s14 : Option Ce, ρ = [some (.scr ns), some (.box false (.L pen2)), some (.val d), some (.val (bookD bk)), some (.val (.str (bookD bk).shown)), some (.val (.list ((parts bk).map Rdr.toD))), some (.box false (.L (natD (startsOf 0 bk)))), s7, s8, some (.box false (.L [])), none, some (.val (.bool (noAg bk))), none, some (.box false (.L ((namesOf bk).map PyData.str))), s14] ∧ ∀ d ∈ ds', Wr d) ?_ ?_ ?_
        · refine ⟨_, by unfold namesOf; rw [List.map_map]; rfl, fun d hd => ?_⟩
          simp only [List.mem_cons, List.not_mem_nil, or_false] at hd
          rcases hd with rfl | rfl | rfl | rfl | rfl | rfl | rfl | rfl | rfl | rfl | rfl | rfl
          · exact ⟨fun e => (nomatch e), by decide +kernel⟩
          · exact ⟨fun e => (nomatch e), by decide +kernel⟩
          · exact ⟨fun e => (nomatch e), by decide +kernel⟩
          · exact ⟨fun e => (nomatch e), by decide +kernel⟩
          · exact t0
          · exact t1
          · exact ⟨fun e => (nomatch e), by decide +kernel⟩
          · exact ⟨fun e => (nomatch e), by decide +kernel⟩
          · exact ⟨fun e => (nomatch e), by decide +kernel⟩
          · exact ⟨fun e => (nomatch e), by decide +kernel⟩
          · exact ⟨fun e => (nomatch e), by decide +kernel⟩
          · exact ⟨fun e => (nomatch e), by decide +kernel⟩
        · rintro d' ds' ρ ⟨s14, rfl, hw⟩ ih4
          obtain ⟨w1, w2⟩ := hw d' List.mem_cons_self
          have nx := ih4 [some (.scr ns), some (.box false (.L pen2)), some (.val d), some (.val (bookD bk)), some (.val (.str (bookD bk).shown)), some (.val (.list ((parts bk).map Rdr.toD))), some (.box false (.L (natD (startsOf 0 bk)))), s7, s8, some (.box false (.L [])), none, some (.val (.bool (noAg bk))), none, some (.box false (.L ((namesOf bk).map PyData.str))), some (.val d')] ⟨_, rfl, fun d h => hw d (List.mem_cons_of_mem _ h)⟩
          cases d' with
          | none => exact absurd rfl w1
          | str y =>
            walk_at "R"
            apply rqB.mk
            · rw [flatD_strs]; rfl
            rw [flat_strsD]
            by_cases hy : y ∈ namesOf bk
            · rw [decide_eq_true hy]
              walk_at "R"
              exact nx
            · rw [decide_eq_false hy]
              walk_at "R"
              refine use_ref6 gb.ok w1 (fun z e => by cases e; exact strt_none _ _ _ hy) w2 ?_
              walk_at "R"
              exact nx
          | _ =>
            walk_at "R"
            refine use_ref6 gb.ok w1 (fun y e => by cases e) w2 ?_
            walk_at "R"
            exact nx
        · rintro ρ ⟨s14, rfl, hw⟩
          walk_at "R"
          exact ih _ ⟨pen2, _, _, _, _, _, _, _, _, _, _, _, rfl, by omega, hp2⟩
  · rintro ρ ⟨pen, s2, s3, s4, s5, s6, s7, s8, s9, s11, s13, s14, rfl, hl, hp⟩
    walk_at "R"
    exact hP
end L06
namespace L06
open PySem L2 PyProof.Rows DL L06H
/-- the defs of the module -/
structure All (K : Fg) (mg : Str → Option Value) (fds : Nat → FuncData) : Prop where
  f_within : FunD K "within" "within" (defArgs s_within) (defBody s_within) (defScope s_within) [] [] (He.ga K "within") (fds 0)
  g_within : mg "within" = some (.ref (He.ga K "within"))
  f_all_within : FunD K "all_within" "all_within" (defArgs s_all_within) (defBody s_all_within) (defScope s_all_within) [] [] (He.ga K "all_within") (fds 1)
  g_all_within : mg "all_within" = some (.ref (He.ga K "all_within"))
  f_parts_of : FunD K "parts_of" "parts_of" (defArgs s_parts_of) (defBody s_parts_of) (defScope s_parts_of) [] [] (He.ga K "parts_of") (fds 2)
  g_parts_of : mg "parts_of" = some (.ref (He.ga K "parts_of"))
  f_numbers_of : FunD K "numbers_of" "numbers_of" (defArgs s_numbers_of) (defBody s_numbers_of) (defScope s_numbers_of) [] [] (He.ga K "numbers_of") (fds 3)
  g_numbers_of : mg "numbers_of" = some (.ref (He.ga K "numbers_of"))
  f_part_of : FunD K "part_of" "part_of" (defArgs s_part_of) (defBody s_part_of) (defScope s_part_of) [.non] [] (He.ga K "part_of") (fds 4)
  g_part_of : mg "part_of" = some (.ref (He.ga K "part_of"))
  f_is_free : FunD K "is_free" "is_free" (defArgs s_is_free) (defBody s_is_free) (defScope s_is_free) [] [] (He.ga K "is_free") (fds 5)
  g_is_free : mg "is_free" = some (.ref (He.ga K "is_free"))
  f__law_draw : FunD K "_law_draw" "_law_draw" (defArgs s__law_draw) (defBody s__law_draw) (defScope s__law_draw) [] [] (He.ga K "_law_draw") (fds 6)
  g__law_draw : mg "_law_draw" = some (.ref (He.ga K "_law_draw"))
  f__law_all : FunD K "_law_all" "_law_all" (defArgs s__law_all) (defBody s__law_all) (defScope s__law_all) [] [] (He.ga K "_law_all") (fds 7)
  g__law_all : mg "_law_all" = some (.ref (He.ga K "_law_all"))
  f__law_signs : FunD K "_law_signs" "_law_signs" (defArgs s__law_signs) (defBody s__law_signs) (defScope s__law_signs) [] [] (He.ga K "_law_signs") (fds 8)
  g__law_signs : mg "_law_signs" = some (.ref (He.ga K "_law_signs"))
  f__law_names : FunD K "_law_names" "_law_names" (defArgs s__law_names) (defBody s__law_names) (defScope s__law_names) [] [] (He.ga K "_law_names") (fds 9)
  g__law_names : mg "_law_names" = some (.ref (He.ga K "_law_names"))
  f__law_leaf : FunD K "_law_leaf" "_law_leaf" (defArgs s__law_leaf) (defBody s__law_leaf) (defScope s__law_leaf) [] [] (He.ga K "_law_leaf") (fds 10)
  g__law_leaf : mg "_law_leaf" = some (.ref (He.ga K "_law_leaf"))
  f__law_reader : FunD K "_law_reader" "_law_reader" (defArgs s__law_reader) (defBody s__law_reader) (defScope s__law_reader) [] [] (He.ga K "_law_reader") (fds 11)
  g__law_reader : mg "_law_reader" = some (.ref (He.ga K "_law_reader"))
  f__law_book : FunD K "_law_book" "_law_book" (defArgs s__law_book) (defBody s__law_book) (defScope s__law_book) [] [] (He.ga K "_law_book") (fds 12)
  g__law_book : mg "_law_book" = some (.ref (He.ga K "_law_book"))
  f__law_inner : FunD K "_law_inner" "_law_inner" (defArgs s__law_inner) (defBody s__law_inner) (defScope s__law_inner) [] [] (He.ga K "_law_inner") (fds 13)
  g__law_inner : mg "_law_inner" = some (.ref (He.ga K "_law_inner"))
  f__law_parts : FunD K "_law_parts" "_law_parts" (defArgs s__law_parts) (defBody s__law_parts) (defScope s__law_parts) [] [] (He.ga K "_law_parts") (fds 14)
  g__law_parts : mg "_law_parts" = some (.ref (He.ga K "_law_parts"))
  f__law_refused : FunD K "_law_refused" "_law_refused" (defArgs s__law_refused) (defBody s__law_refused) (defScope s__law_refused) [] [] (He.ga K "_law_refused") (fds 15)
  g__law_refused : mg "_law_refused" = some (.ref (He.ga K "_law_refused"))
  f_law : FunD K "law" "law" (defArgs s_law) (defBody s_law) (defScope s_law) [] [] (He.ga K "law") (fds 16)
  g_law : mg "law" = some (.ref (He.ga K "law"))
  f_Unknown___init__ : FunD K "__init__" "Unknown.__init__" (defArgs s_Unknown___init__) (defBody s_Unknown___init__) (defScope s_Unknown___init__) [] [] (He.ma K (He.ga K "Unknown") "__init__") (fds 17)
section
variable {P : Program} {w : World} {K : Fg} {mg : Str → Option Value} {base : Heap} {fds : Nat → FuncData}
theorem b_within_1 (a : All K mg fds) : Bd K (fds 0) ["reader"] 1 [] (pick [(false, 0)]) :=
  Bd.pick a.f_within 1 [] _ rfl rfl (fun _ _ _ _ _ _ us ws l1 l2 => match us, ws, l1, l2 with | [_], [], _, _ => rfl)
theorem b_all_within_1 (a : All K mg fds) : Bd K (fds 1) ["reader"] 1 [] (pick [(false, 0)]) :=
  Bd.pick a.f_all_within 1 [] _ rfl rfl (fun _ _ _ _ _ _ us ws l1 l2 => match us, ws, l1, l2 with | [_], [], _, _ => rfl)
theorem b_numbers_of_1 (a : All K mg fds) : Bd K (fds 3) ["book"] 1 [] (pick [(false, 0)]) :=
  Bd.pick a.f_numbers_of 1 [] _ rfl rfl (fun _ _ _ _ _ _ us ws l1 l2 => match us, ws, l1, l2 with | [_], [], _, _ => rfl)
theorem b_parts_of_1 (a : All K mg fds) : Bd K (fds 2) ["book"] 1 [] (pick [(false, 0)]) :=
  Bd.pick a.f_parts_of 1 [] _ rfl rfl (fun _ _ _ _ _ _ us ws l1 l2 => match us, ws, l1, l2 with | [_], [], _, _ => rfl)
theorem b__law_all_0 (a : All K mg fds) : Bd K (fds 7) [] 0 [] (pick []) :=
  Bd.pick a.f__law_all 0 [] _ rfl rfl (fun _ _ _ _ _ _ us ws l1 l2 => match us, ws, l1, l2 with | [], [], _, _ => rfl)
theorem b__law_draw_2 (a : All K mg fds) : Bd K (fds 6) ["_law_pen", "_law_many"] 2 [] (pick [(false, 0), (false, 1)]) :=
  Bd.pick a.f__law_draw 2 [] _ rfl rfl (fun _ _ _ _ _ _ us ws l1 l2 => match us, ws, l1, l2 with | [_, _], [], _, _ => rfl)
theorem b__law_signs_1 (a : All K mg fds) : Bd K (fds 8) ["_law_pen"] 1 [] (pick [(false, 0)]) :=
  Bd.pick a.f__law_signs 1 [] _ rfl rfl (fun _ _ _ _ _ _ us ws l1 l2 => match us, ws, l1, l2 with | [_], [], _, _ => rfl)
theorem b__law_leaf_2 (a : All K mg fds) : Bd K (fds 10) ["_law_pen", "_law_names_here"] 2 [] (pick [(false, 0), (false, 1)]) :=
  Bd.pick a.f__law_leaf 2 [] _ rfl rfl (fun _ _ _ _ _ _ us ws l1 l2 => match us, ws, l1, l2 with | [_, _], [], _, _ => rfl)
theorem b__law_reader_4 (a : All K mg fds) : Bd K (fds 11) ["_law_pen", "_law_names_here", "_law_deep", "_law_left"] 4 [] (pick [(false, 0), (false, 1), (false, 2), (false, 3)]) :=
  Bd.pick a.f__law_reader 4 [] _ rfl rfl (fun _ _ _ _ _ _ us ws l1 l2 => match us, ws, l1, l2 with | [_, _, _, _], [], _, _ => rfl)
theorem b__law_names_2 (a : All K mg fds) : Bd K (fds 9) ["_law_pen", "_law_many"] 2 [] (pick [(false, 0), (false, 1)]) :=
  Bd.pick a.f__law_names 2 [] _ rfl rfl (fun _ _ _ _ _ _ us ws l1 l2 => match us, ws, l1, l2 with | [_, _], [], _, _ => rfl)
theorem b__law_inner_1 (a : All K mg fds) : Bd K (fds 13) ["_law_reader_here"] 1 [] (pick [(false, 0)]) :=
  Bd.pick a.f__law_inner 1 [] _ rfl rfl (fun _ _ _ _ _ _ us ws l1 l2 => match us, ws, l1, l2 with | [_], [], _, _ => rfl)
theorem b__law_parts_1 (a : All K mg fds) : Bd K (fds 14) ["_law_reader_here"] 1 [] (pick [(false, 0)]) :=
  Bd.pick a.f__law_parts 1 [] _ rfl rfl (fun _ _ _ _ _ _ us ws l1 l2 => match us, ws, l1, l2 with | [_], [], _, _ => rfl)
theorem b_part_of_2 (a : All K mg fds) : Bd K (fds 4) ["book", "name"] 2 [] (fun xs zs => pick [(false, 0), (false, 1)] xs (zs ++ [.none].map R.val)) :=
  Bd.pos a.f_part_of 2 [] _ (by simp) (.cons .non (.nil)) rfl rfl (fun _ _ _ _ _ _ _ us ws its l1 l2 l3 => match us, ws, its, l1, l2, l3 with | [_, _], [], [_], _, _, _ => ⟨_, rfl, rfl⟩)
theorem b__law_book_2 (a : All K mg fds) : Bd K (fds 12) ["_law_pen", "_law_most"] 2 [] (pick [(false, 0), (false, 1)]) :=
  Bd.pick a.f__law_book 2 [] _ rfl rfl (fun _ _ _ _ _ _ us ws l1 l2 => match us, ws, l1, l2 with | [_, _], [], _, _ => rfl)
theorem b_parts_of_0_book (a : All K mg fds) : Bd K (fds 2) ["book"] 0 ["book"] (pick [(true, 0)]) :=
  Bd.pick a.f_parts_of 0 ["book"] _ rfl rfl (fun _ _ _ _ _ _ us ws l1 l2 => match us, ws, l1, l2 with | [], [_], _, _ => rfl)
theorem b_part_of_0_name_book (a : All K mg fds) : Bd K (fds 4) ["book", "name"] 0 ["name", "book"] (fun xs zs => pick [(true, 1), (true, 0)] xs (zs ++ [.none].map R.val)) :=
  Bd.pos a.f_part_of 0 ["name", "book"] _ (by simp) (.cons .non (.nil)) rfl rfl (fun _ _ _ _ _ _ _ us ws its l1 l2 l3 => match us, ws, its, l1, l2, l3 with | [], [_, _], [_], _, _, _ => ⟨_, rfl, rfl⟩)
theorem b_part_of_1 (a : All K mg fds) : Bd K (fds 4) ["book", "name"] 1 [] (fun xs zs => pick [(false, 0), (true, 0)] xs (zs ++ [.none].map R.val)) :=
  Bd.pos a.f_part_of 1 [] _ (by simp) (.cons .non (.nil)) rfl rfl (fun _ _ _ _ _ _ _ us ws its l1 l2 l3 => match us, ws, its, l1, l2, l3 with | [_], [], [_], _, _, _ => ⟨_, rfl, rfl⟩)
theorem b_is_free_1 (a : All K mg fds) : Bd K (fds 5) ["book"] 1 [] (pick [(false, 0)]) :=
  Bd.pick a.f_is_free 1 [] _ rfl rfl (fun _ _ _ _ _ _ us ws l1 l2 => match us, ws, l1, l2 with | [_], [], _, _ => rfl)
theorem b_is_free_0_book (a : All K mg fds) : Bd K (fds 5) ["book"] 0 ["book"] (pick [(true, 0)]) :=
  Bd.pick a.f_is_free 0 ["book"] _ rfl rfl (fun _ _ _ _ _ _ us ws l1 l2 => match us, ws, l1, l2 with | [], [_], _, _ => rfl)
theorem b__law_refused_2 (a : All K mg fds) : Bd K (fds 15) ["_law_some", "_law_word"] 2 [] (pick [(false, 0), (false, 1)]) :=
  Bd.pick a.f__law_refused 2 [] _ rfl rfl (fun _ _ _ _ _ _ us ws l1 l2 => match us, ws, l1, l2 with | [_, _], [], _, _ => rfl)
theorem t_within (g : Gb w K mg) (a : All K mg fds) : FnD P w K mg base (1) (He.ga K "within") (fds 0) ["reader"] (c_within) :=
  FnD.imp (fnd_def (k := 0) a.f_within sc_within fun cdv A outer s H E hr hgu => d_within g hr hgu) w_within
theorem t_aw (g : Gb w K mg) (a : All K mg fds) : ∀ n : Nat, FnD P w K mg base (1 + 1 * n + 1) (He.ga K "all_within") (fds 1) ["reader"] (c_aw n)
  | 0 => by
    have j_all_within : FnD P w K mg base (1 + 1 * 0 + 1) (He.ga K "all_within") (fds 1) ["reader"] (c_aw 0) := FnD.never n_aw
    exact j_all_within
  | n + 1 => by
    have ih := t_aw g a n
    have i_all_within := ih
    have j_all_within : FnD P w K mg base (1 + 1 * (n + 1) + 1) (He.ga K "all_within") (fds 1) ["reader"] (c_aw (n + 1)) := FnD.imp (fnd_def (k := 1 + 1 * (n + 1) + 0) a.f_all_within sc_all_within fun cdv A outer s H E hr hgu => d_all_within g (Def.of a.g_within a.f_within.kp (FnD.mono (t_within (P := P) (base := base) g a) (by omega)) (b_within_1 a)) (Def.of a.g_all_within a.f_all_within.kp (FnD.mono (i_all_within) (by omega)) (b_all_within_1 a)) hr hgu) (w_aw n)
    exact j_all_within
theorem t_parts_of (g : Gb w K mg) (a : All K mg fds) : FnD P w K mg base (11) (He.ga K "parts_of") (fds 2) ["book"] (c_parts) :=
  FnD.imp (fnd_def (k := 10) a.f_parts_of sc_parts_of fun cdv A outer s H E hr hgu => d_parts_of g (Def.of a.g_all_within a.f_all_within.kp (FnD.mono ((t_aw (P := P) (base := base) g a 8)) (by omega)) (b_all_within_1 a)) hr hgu) w_parts
theorem t_numbers_of (g : Gb w K mg) (a : All K mg fds) : FnD P w K mg base (11) (He.ga K "numbers_of") (fds 3) ["book"] (c_nums) :=
  FnD.imp (fnd_def (k := 10) a.f_numbers_of sc_numbers_of fun cdv A outer s H E hr hgu => d_numbers_of g (Def.of a.g_all_within a.f_all_within.kp (FnD.mono ((t_aw (P := P) (base := base) g a 8)) (by omega)) (b_all_within_1 a)) hr hgu) w_nums
theorem t_part_of (g : Gb w K mg) (a : All K mg fds) : FnD P w K mg base (12) (He.ga K "part_of") (fds 4) ["book", "name"] (c_partof) :=
  FnD.imp (fnd_def (k := 11) a.f_part_of sc_part_of fun cdv A outer s H E hr hgu => d_part_of g (Def.of a.g_numbers_of a.f_numbers_of.kp (FnD.mono (t_numbers_of (P := P) (base := base) g a) (by omega)) (b_numbers_of_1 a)) hr hgu) w_partof
theorem tx_part_of (g : Gb w K mg) (a : All K mg fds) : FnX P w K mg base (12) (He.ga K "part_of") (fds 4) ["book", "name"] (cx_partof) :=
  FnX.imp (fnx_def (k := 11) a.f_part_of sc_part_of fun cdv A outer s H E hr hgu => x_part_of g (Def.of a.g_numbers_of a.f_numbers_of.kp (FnD.mono (t_numbers_of (P := P) (base := base) g a) (by omega)) (b_numbers_of_1 a)) (k_Unknown g a.f_Unknown___init__ (FunD.bindsN a.f_Unknown___init__ fun _ _ _ _ _ _ us hl => match us, hl with | [_, _], _ => rfl)) hr hgu (by omega)) wx_partof
theorem t_is_free (g : Gb w K mg) (a : All K mg fds) : FnD P w K mg base (12) (He.ga K "is_free") (fds 5) ["book"] (c_isfree) :=
  FnD.imp (fnd_def (k := 11) a.f_is_free sc_is_free fun cdv A outer s H E hr hgu => d_is_free g (Def.of a.g_parts_of a.f_parts_of.kp (FnD.mono (t_parts_of (P := P) (base := base) g a) (by omega)) (b_parts_of_1 a)) hr hgu) w_isfree
theorem t__law_draw (g : Gb w K mg) (a : All K mg fds) : FnD P w K mg base (1) (He.ga K "_law_draw") (fds 6) ["_law_pen", "_law_many"] (c_draw) :=
  FnD.imp (fnd_def (k := 0) a.f__law_draw sc__law_draw fun cdv A outer s H E hr hgu => d__law_draw g hr hgu) w_draw
theorem t__law_all (g : Gb w K mg) (a : All K mg fds) : FnD P w K mg base (1) (He.ga K "_law_all") (fds 7) [] (c_all) :=
  FnD.imp (fnd_def (k := 0) a.f__law_all sc__law_all fun cdv A outer s H E hr hgu => d__law_all g hr hgu) w_all
theorem t__law_signs (g : Gb w K mg) (a : All K mg fds) : FnD P w K mg base (2) (He.ga K "_law_signs") (fds 8) ["_law_pen"] (c_signs) :=
  FnD.imp (fnd_def (k := 1) a.f__law_signs sc__law_signs fun cdv A outer s H E hr hgu => d__law_signs g (Def.of a.g__law_all a.f__law_all.kp (FnD.mono (t__law_all (P := P) (base := base) g a) (by omega)) (b__law_all_0 a)) (Def.of a.g__law_draw a.f__law_draw.kp (FnD.mono (t__law_draw (P := P) (base := base) g a) (by omega)) (b__law_draw_2 a)) hr hgu) w_signs
theorem t__law_names (g : Gb w K mg) (a : All K mg fds) : FnD P w K mg base (2) (He.ga K "_law_names") (fds 9) ["_law_pen", "_law_many"] (c_names) :=
  FnD.imp (fnd_def (k := 1) a.f__law_names sc__law_names fun cdv A outer s H E hr hgu => d__law_names g (Def.of a.g__law_draw a.f__law_draw.kp (FnD.mono (t__law_draw (P := P) (base := base) g a) (by omega)) (b__law_draw_2 a)) hr hgu) w_names
theorem t__law_leaf (g : Gb w K mg) (a : All K mg fds) : FnD P w K mg base (3) (He.ga K "_law_leaf") (fds 10) ["_law_pen", "_law_names_here"] (c_leaf) :=
  FnD.imp (fnd_def (k := 2) a.f__law_leaf sc__law_leaf fun cdv A outer s H E hr hgu => d__law_leaf g (Def.of a.g__law_draw a.f__law_draw.kp (FnD.mono (t__law_draw (P := P) (base := base) g a) (by omega)) (b__law_draw_2 a)) (Def.of a.g__law_signs a.f__law_signs.kp (FnD.mono (t__law_signs (P := P) (base := base) g a) (by omega)) (b__law_signs_1 a)) hr hgu) w_leaf
theorem t_rd (g : Gb w K mg) (a : All K mg fds) : ∀ n : Nat, FnD P w K mg base (3 + 1 * n + 1) (He.ga K "_law_reader") (fds 11) ["_law_pen", "_law_names_here", "_law_deep", "_law_left"] (c_rd n)
  | 0 => by
    have j__law_reader : FnD P w K mg base (3 + 1 * 0 + 1) (He.ga K "_law_reader") (fds 11) ["_law_pen", "_law_names_here", "_law_deep", "_law_left"] (c_rd 0) := FnD.never n_rd
    exact j__law_reader
  | n + 1 => by
    have ih := t_rd g a n
    have i__law_reader := ih
    have j__law_reader : FnD P w K mg base (3 + 1 * (n + 1) + 1) (He.ga K "_law_reader") (fds 11) ["_law_pen", "_law_names_here", "_law_deep", "_law_left"] (c_rd (n + 1)) := FnD.imp (fnd_def (k := 3 + 1 * (n + 1) + 0) a.f__law_reader sc__law_reader fun cdv A outer s H E hr hgu => d__law_reader g (Def.of a.g__law_draw a.f__law_draw.kp (FnD.mono (t__law_draw (P := P) (base := base) g a) (by omega)) (b__law_draw_2 a)) (Def.of a.g__law_leaf a.f__law_leaf.kp (FnD.mono (t__law_leaf (P := P) (base := base) g a) (by omega)) (b__law_leaf_2 a)) (Def.of a.g__law_reader a.f__law_reader.kp (FnD.mono (i__law_reader) (by omega)) (b__law_reader_4 a)) hr hgu) (w_rd n)
    exact j__law_reader
theorem t__law_book (g : Gb w K mg) (a : All K mg fds) : FnD P w K mg base (13) (He.ga K "_law_book") (fds 12) ["_law_pen", "_law_most"] (c_bk6) :=
  FnD.imp (fnd_def (k := 12) a.f__law_book sc__law_book fun cdv A outer s H E hr hgu => d__law_book g (Def.of a.g__law_names a.f__law_names.kp (FnD.mono (t__law_names (P := P) (base := base) g a) (by omega)) (b__law_names_2 a)) (Def.of a.g__law_draw a.f__law_draw.kp (FnD.mono (t__law_draw (P := P) (base := base) g a) (by omega)) (b__law_draw_2 a)) (Def.of a.g__law_reader a.f__law_reader.kp (FnD.mono ((t_rd (P := P) (base := base) g a 8)) (by omega)) (b__law_reader_4 a)) hr hgu) w_bk6
theorem t__law_inner (g : Gb w K mg) (a : All K mg fds) : FnD P w K mg base (1) (He.ga K "_law_inner") (fds 13) ["_law_reader_here"] (c_within) :=
  FnD.imp (fnd_def (k := 0) a.f__law_inner sc__law_inner fun cdv A outer s H E hr hgu => d__law_inner g hr hgu) w_inner
theorem t_lp (g : Gb w K mg) (a : All K mg fds) : ∀ n : Nat, FnD P w K mg base (1 + 1 * n + 1) (He.ga K "_law_parts") (fds 14) ["_law_reader_here"] (c_aw n)
  | 0 => by
    have j__law_parts : FnD P w K mg base (1 + 1 * 0 + 1) (He.ga K "_law_parts") (fds 14) ["_law_reader_here"] (c_aw 0) := FnD.never n_aw
    exact j__law_parts
  | n + 1 => by
    have ih := t_lp g a n
    have i__law_parts := ih
    have j__law_parts : FnD P w K mg base (1 + 1 * (n + 1) + 1) (He.ga K "_law_parts") (fds 14) ["_law_reader_here"] (c_aw (n + 1)) := FnD.imp (fnd_def (k := 1 + 1 * (n + 1) + 0) a.f__law_parts sc__law_parts fun cdv A outer s H E hr hgu => d__law_parts g (Def.of a.g__law_inner a.f__law_inner.kp (FnD.mono (t__law_inner (P := P) (base := base) g a) (by omega)) (b__law_inner_1 a)) (Def.of a.g__law_parts a.f__law_parts.kp (FnD.mono (i__law_parts) (by omega)) (b__law_parts_1 a)) hr hgu) (w_lparts n)
    exact j__law_parts
theorem t__law_refused (g : Gb w K mg) (a : All K mg fds) : FnD P w K mg base (13) (He.ga K "_law_refused") (fds 15) ["_law_some", "_law_word"] (c_ref6) :=
  FnD.imp (fnd_def (k := 12) a.f__law_refused sc__law_refused fun cdv A outer s H E hr hgu => d__law_refused g (Def.of a.g_part_of a.f_part_of.kp (FnD.mono (t_part_of (P := P) (base := base) g a) (by omega)) (b_part_of_2 a)) (DefX.of a.g_part_of a.f_part_of.kp (FnX.mono (tx_part_of (P := P) (base := base) g a) (by omega)) (b_part_of_2 a)) hr hgu) w_ref6
theorem t_law (g : Gb w K mg) (a : All K mg fds) : FnD P w K mg base (14) (He.ga K "law") (fds 16) ["_law_script"] (c_law) :=
  FnD.imp (fnd_def (k := 13) a.f_law sc_law fun cdv A outer s H E hr hgu => d_law g (Def.of a.g__law_book a.f__law_book.kp (FnD.mono (t__law_book (P := P) (base := base) g a) (by omega)) (b__law_book_2 a)) (Def.of a.g__law_draw a.f__law_draw.kp (FnD.mono (t__law_draw (P := P) (base := base) g a) (by omega)) (b__law_draw_2 a)) (Def.of a.g__law_parts a.f__law_parts.kp (FnD.mono ((t_lp (P := P) (base := base) g a 8)) (by omega)) (b__law_parts_1 a)) (Def.of a.g_parts_of a.f_parts_of.kp (FnD.mono (t_parts_of (P := P) (base := base) g a) (by omega)) (b_parts_of_1 a)) (Def.of a.g_parts_of a.f_parts_of.kp (FnD.mono (t_parts_of (P := P) (base := base) g a) (by omega)) (b_parts_of_0_book a)) (Def.of a.g_part_of a.f_part_of.kp (FnD.mono (t_part_of (P := P) (base := base) g a) (by omega)) (b_part_of_2 a)) (Def.of a.g_part_of a.f_part_of.kp (FnD.mono (t_part_of (P := P) (base := base) g a) (by omega)) (b_part_of_0_name_book a)) (Def.of a.g_part_of a.f_part_of.kp (FnD.mono (t_part_of (P := P) (base := base) g a) (by omega)) (b_part_of_1 a)) (Def.of a.g_is_free a.f_is_free.kp (FnD.mono (t_is_free (P := P) (base := base) g a) (by omega)) (b_is_free_1 a)) (Def.of a.g_is_free a.f_is_free.kp (FnD.mono (t_is_free (P := P) (base := base) g a) (by omega)) (b_is_free_0_book a)) (Def.of a.g__law_refused a.f__law_refused.kp (FnD.mono (t__law_refused (P := P) (base := base) g a) (by omega)) (b__law_refused_2 a)) hr hgu) w_law
end
theorem facts {P : Program} {w : World} {K : Fg} {h : Heap} {mg : Str → Option Value} {f : Addr} (X : K.In h) (G : h.Ns mainGlobals mg) (hfa : mg ("law" : Str) = some (.ref f)) (c0 : SaysY fa fn cs ts xs w K) :
    ∃ fd : FuncData, (∀ (s : Shared) (v : Value), BindsTo s fd ⟨[v], []⟩ [("_law_script", v)]) ∧ ∀ base : Heap, K.In base → base.Ns mainGlobals mg → FnD P w K mg base 14 f fd ["_law_script"] c_law := by
  have c := c0.x
  obtain ⟨fd0, F0⟩ := c.defs.def_ 0 rfl
  obtain ⟨fd1, F1⟩ := c.defs.def_ 1 rfl
  obtain ⟨fd2, F2⟩ := c.defs.def_ 2 rfl
  obtain ⟨fd3, F3⟩ := c.defs.def_ 3 rfl
  obtain ⟨fd4, F4⟩ := c.defs.def_ 4 rfl
  obtain ⟨fd5, F5⟩ := c.defs.def_ 5 rfl
  obtain ⟨fd6, F6⟩ := c.defs.def_ 6 rfl
  obtain ⟨fd7, F7⟩ := c.defs.def_ 7 rfl
  obtain ⟨fd8, F8⟩ := c.defs.def_ 8 rfl
  obtain ⟨fd9, F9⟩ := c.defs.def_ 9 rfl
  obtain ⟨fd10, F10⟩ := c.defs.def_ 10 rfl
  obtain ⟨fd11, F11⟩ := c.defs.def_ 11 rfl
  obtain ⟨fd12, F12⟩ := c.defs.def_ 12 rfl
  obtain ⟨fd13, F13⟩ := c.defs.def_ 13 rfl
  obtain ⟨fd14, F14⟩ := c.defs.def_ 14 rfl
  obtain ⟨fd15, F15⟩ := c.defs.def_ 15 rfl
  obtain ⟨fd16, F16⟩ := c.defs.def_ 16 rfl
  obtain ⟨fd17, F17⟩ := c.defs.def_ 17 rfl
  have a : All K mg (fun i => [fd0, fd1, fd2, fd3, fd4, fd5, fd6, fd7, fd8, fd9, fd10, fd11, fd12, fd13, fd14, fd15, fd16, fd17].getD i fd0) := ⟨F0, He.glo_ok X G (c.defs.fact 0 rfl), F1, He.glo_ok X G (c.defs.fact 1 rfl), F2, He.glo_ok X G (c.defs.fact 2 rfl), F3, He.glo_ok X G (c.defs.fact 3 rfl), F4, He.glo_ok X G (c.defs.fact 4 rfl), F5, He.glo_ok X G (c.defs.fact 5 rfl), F6, He.glo_ok X G (c.defs.fact 6 rfl), F7, He.glo_ok X G (c.defs.fact 7 rfl), F8, He.glo_ok X G (c.defs.fact 8 rfl), F9, He.glo_ok X G (c.defs.fact 9 rfl), F10, He.glo_ok X G (c.defs.fact 10 rfl), F11, He.glo_ok X G (c.defs.fact 11 rfl), F12, He.glo_ok X G (c.defs.fact 12 rfl), F13, He.glo_ok X G (c.defs.fact 13 rfl), F14, He.glo_ok X G (c.defs.fact 14 rfl), F15, He.glo_ok X G (c.defs.fact 15 rfl), F16, He.glo_ok X G (c.defs.fact 16 rfl), F17⟩
  have g : Gb w K mg := ⟨He.free_ok X G (c.defs.fact 17 rfl), He.free_ok X G (c.defs.fact 18 rfl), He.free_ok X G (c.defs.fact 19 rfl), He.free_ok X G (c.defs.fact 20 rfl), He.free_ok X G (c.defs.fact 21 rfl), He.free_ok X G (c.defs.fact 22 rfl), He.free_ok X G (c.defs.fact 23 rfl), He.free_ok X G (c.defs.fact 24 rfl), He.free_ok X G (c.defs.fact 25 rfl), He.free_ok X G (c.defs.fact 26 rfl), He.free_ok X G (c.defs.fact 27 rfl), c.con X G 0, c.tab X G 0, He.glo_ok X G (c.defs.fact 28 rfl), He.glo_ok X G (c.defs.fact 29 rfl), c0.f 0, c0.f 1, c0.f 2, c0.f 3, c0.f 4, c0.f 5, c0.f 6⟩
  have e := hfa.symm.trans a.g_law
  cases e
  have b := FunD.bindsA (ps := ["_law_script"]) a.f_law fun _ _ _ _ _ _ us hl => match us, hl with | [_], _ => rfl
  exact ⟨_, fun s v => b s [v] rfl, fun base _ _ => t_law g a⟩
end L06
open PySem PySem.W PySem.Calls PyProof.Rows
theorem PySem.Challenge.cw_smallreaders_k06_parts_numbered_holds : PySem.Challenge.rw_smallreaders_k06_parts_numbered.Holds := by
  w_on; o_law
  refine HandSHeadRun.head_any (r := OpenLaw.row PySem.Challenge.rw_smallreaders_k06_parts_numbered) (q := view (OpenLaw.row PySem.Challenge.rw_smallreaders_k06_parts_numbered).prog [24]) (H := L06H.hk) (ob := L06H.ob) (M := 6000) (loose := L06H.loose) (d := HandSHeadRun.topDef (OpenLaw.row PySem.Challenge.rw_smallreaders_k06_parts_numbered).prog 24) (kwd := []) L06H.ob_eq
    (by kernel_rfl) (fun s => by kernel_rfl) L06H.run (by kernel_rfl) (by kernel_rfl) (by kernel_rfl) (by rfl) (by first | assumption | decide +kernel) (by decide +kernel) ⟨rfl, rfl, rfl, rfl, rfl, by decide +kernel⟩ ?hw ?hc
  case hw => w_witness2
  case hc =>
    refine DL.walk_d (l := PySem.Challenge.rw_smallreaders_k06_parts_numbered) (n := 63) (k := 14) (x := "_law_script") rfl (by decide) (by kernel_rfl) ⟨rfl, by decide, by decide⟩ ?F
    intro w mg fa h Y G hmg0
    obtain ⟨K, KX, c⟩ := Y
    have hmg : mg ("law" : PySem.Str) = some (.ref fa) := by
      have e : (HandSHeadRun.topDef (OpenLaw.row PySem.Challenge.rw_smallreaders_k06_parts_numbered).prog 24).name = ("law" : PySem.Str) := by kernel_rfl
      rw [← e]
      exact hmg0
    obtain ⟨fd, hb, hF⟩ := L06.facts (P := (PySem.Challenge.rw_smallreaders_k06_parts_numbered).prog) (w := w) KX G hmg c
    exact ⟨K, fd, L06.c_law, KX, hb, L06.law_ok, hF⟩
