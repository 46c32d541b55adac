import PyProof.Rows.All
import Wide.All
import OpenK.AllK
import Wide.FinOn
import HandS.ForMost
import HandS.HeadHook1
import HandS.TupAny
import HandS.Deep
import HandS.Wide
import HandS.TupMul
import HandS.Conv
import HandS.TupLe
import HandS.Flow
import HandS.IsInst
import HandS.RaiseMore
import HandS.Strs
import HandS.Defaults
import KE.KUnpackStar
import HandS.Text
import HandS.FStr
import HandS.StrSplit
import HandS.StrMore
import HandS.Ends
import HandS.Words
import HandS.HeadEnd
import KE.KStateDown
import HandS.WordsExc
import HandS.Head0
import HandS.Head1
import HandS.Head2
import HandS.HeadHook2
import KE.GoesZip
import KE.GoesMore
import HandS.Zip
import HandS.Flt
import PyProof.Rows.StrFirst
import HandS.WordsDict
import HandS.More
import KE.SortData
import HandS.DictComp
import HandS.SetKeys
import HandS.SetBool
import HandS.Style
import HandS.SortKw
import KE.DatumOrd
import HandS.Set
import HandS.SortInts
import HandS.SetFor
import PyProof.ListRange
import PyProof.NeKinds
import PyProof.ListStr
import PyProof.P3In
import KE.KDictCopyH
import KE.KDictDisplayH
import KE.KDictPairs
import HandS.ExcInit
import HandS.ExcCtx
import HandS.ExcIs
import HandS.ExcField
import HandS.ClsMeth
import PyProof.Rows.FactsExc_KeyError
import KE.KExcIs
import PySem.Challenge.RW_smallreaders_k04_books_known
set_option Elab.async false
set_option linter.all false
set_option maxRecDepth 100000
set_option maxHeartbeats 4000000
namespace DL
open PySem L2
abbrev D := PyData
abbrev Fg := PySem.W.Frag
def Sub (F H : Hp) : Prop := ∀ a o, F a = some o → H a = some o
theorem Sub.refl (F : Hp) : Sub F F := fun _ _ h => h
theorem Sub.trans {F G H : Hp} (a : Sub F G) (b : Sub G H) : Sub F H := fun x o h => b x o (a x o h)
theorem Sub.new {F : Hp} {p : Addr} {o : HO} (h : F p = none) : Sub F (upd F p o) := fun a u e => by
  rw [upd_ne (ne_of_none e h)]; exact e
theorem Sub.rd {F H : Hp} (s : Sub F H) {a : Addr} {u : HO} (h : Rd F a u) : Rd H a u := by
  rcases h with h | ⟨o, h⟩
  · exact Or.inl (s a _ h)
  · exact Or.inr ⟨o, s a _ h⟩
theorem Sub.sqL {K : Fg} {F H : Hp} (s : Sub F H) {a : Addr} {xs : List V} (h : SqL K F a xs) : SqL K H a xs := by
  rcases h with h | h
  · exact Or.inl (s.rd h)
  · exact Or.inr h
theorem Sub.sqT {K : Fg} {F H : Hp} (s : Sub F H) {a : Addr} {xs : List V} (h : SqT K F a xs) : SqT K H a xs := by
  rcases h with h | h
  · exact Or.inl (s.rd h)
  · exact Or.inr h
def kD : Key → D
  | .inl i => .int i
  | .inr s => .str s
def ktD (k : List Key) : D := .tuple (k.map kD)
/-- the keys and values of a dict that stands at a -/
def DOf (F : Hp) (a : Addr) (ks : List D) (vs : List V) : Prop :=
  (∃ kvs, F a = some (.dK kvs) ∧ ks = kvs.map (fun p => kD p.1) ∧ vs = kvs.map (·.2)) ∨
  (∃ kvs, F a = some (.dT kvs) ∧ ks = kvs.map (fun p => ktD p.1) ∧ vs = kvs.map (·.2))
theorem DOf.mono {F H : Hp} (s : Sub F H) {a : Addr} {ks : List D} {vs : List V} (h : DOf F a ks vs) : DOf H a ks vs := by
  rcases h with ⟨k, e, q⟩ | ⟨k, e, q⟩
  · exact .inl ⟨k, s _ _ e, q⟩
  · exact .inr ⟨k, s _ _ e, q⟩
def noInt : D → Bool
  | .int _ => false
  | _ => true
/-- a tuple: of F, or one of the module's own that has no whole number -/
def noIntV : V → Bool
  | .int _ => false
  | _ => true
/-- a new tuple: one without a whole number is known to the object -/
def tupO (o : Obj) (xs : List V) : HO := match xs.all noIntV with
  | true => .frz o (.tup xs)
  | false => .tup xs
/-- a tuple whose object has no dict -/
def SqZ (K : Fg) (F : Hp) (a : Addr) (xs : List V) : Prop :=
  (∃ o, F a = some (.frz o (.tup xs)) ∧ o.dict = none) ∨ ∃ (o : Obj) (its : Array Value) (n : Nat), K.lookup a = some o ∧ o.cls = .type "tuple" ∧ o.dict = none ∧ o.data = .seq its n ∧ its.size ≤ sizeLine ∧ Vals xs its.toList
theorem SqZ.sqT {K : Fg} {F : Hp} {a : Addr} {xs : List V} (h : SqZ K F a xs) : SqT K F a xs := by
  rcases h with ⟨o, h, _⟩ | ⟨o, its, n, h1, h2, _, h3⟩
  · exact .inl (.inr ⟨o, h⟩)
  · exact .inr ⟨o, its, n, h1, h2, h3⟩
theorem SqZ.mono {K : Fg} {F H : Hp} {a : Addr} {xs : List V} (h : SqZ K F a xs) (s : Sub F H) : SqZ K H a xs := by
  rcases h with ⟨o, h, q⟩ | h
  · exact .inl ⟨o, s _ _ h, q⟩
  · exact .inr h
def TpOk (K : Fg) (F : Hp) (a : Addr) (xs : List V) (ds : List D) : Prop := (F a = some (.tup xs) ∧ ds.all noInt = false) ∨ (SqZ K F a xs ∧ ds.all noInt = true)
theorem TpOk.sqT {K : Fg} {F : Hp} {a : Addr} {xs : List V} {ds : List D} (h : TpOk K F a xs ds) : SqT K F a xs := by
  rcases h with h | h
  · exact .inl (.inl h.1)
  · exact h.1.sqT
theorem TpOk.mono {K : Fg} {F H : Hp} {a : Addr} {xs : List V} {ds : List D} (h : TpOk K F a xs ds) (s : Sub F H) : TpOk K H a xs ds := by
  rcases h with h | h
  · exact .inl ⟨s _ _ h.1, h.2⟩
  · exact .inr ⟨h.1.mono s, h.2⟩
mutual
/-- v is the datum d, all of it in F -/
inductive Rp (K : Fg) (F : Hp) : V → D → Prop
  | non : Rp K F .non .none
  | bl (b : Bool) : Rp K F (.bl b) (.bool b)
  | int (i : Int) : Rp K F (.int i) (.int i)
  | str (x : Str) : Rp K F (.str x) (.str x)
  | lst {a : Addr} {xs : List V} {ds : List D} : Rd F a (.lst xs) → RpA K F xs ds → Rp K F (.ref a) (.list ds)
  | tup {a : Addr} {xs : List V} {ds : List D} : TpOk K F a xs ds → RpA K F xs ds → Rp K F (.ref a) (.tuple ds)
  | dct {a : Addr} {ks : List D} {vs : List V} {ws : List D} {ds : List (D × D)} : DOf F a ks vs → RpA K F vs ws → ds.map (·.1) = ks → ds.map (·.2) = ws → Rp K F (.ref a) (.dict ds)
inductive RpA (K : Fg) (F : Hp) : List V → List D → Prop
  | nil : RpA K F [] []
  | cons {v : V} {vs : List V} {d : D} {ds : List D} : Rp K F v d → RpA K F vs ds → RpA K F (v :: vs) (d :: ds)
end
mutual
theorem Rp.mono {K : Fg} {F H : Hp} (s : Sub F H) {v : V} {d : D} : Rp K F v d → Rp K H v d
  | .non => .non
  | .bl b => .bl b
  | .int i => .int i
  | .str x => .str x
  | .lst h r => .lst (s.rd h) (RpA.mono s r)
  | .tup h r => .tup (h.mono s) (RpA.mono s r)
  | .dct h r a b => .dct (h.mono s) (RpA.mono s r) a b
theorem RpA.mono {K : Fg} {F H : Hp} (s : Sub F H) {v : List V} {d : List D} : RpA K F v d → RpA K H v d
  | .nil => .nil
  | .cons h r => .cons (Rp.mono s h) (RpA.mono s r)
end
theorem RpA.length {K : Fg} {F : Hp} : ∀ {vs : List V} {ds : List D}, RpA K F vs ds → vs.length = ds.length
  | _, _, .nil => rfl
  | _, _, .cons _ r => by rw [List.length_cons, List.length_cons, RpA.length r]
theorem RpA.get {K : Fg} {F : Hp} : ∀ {vs : List V} {ds : List D} {i : Nat} {v : V}, RpA K F vs ds → vs[i]? = some v → ∃ d, ds[i]? = some d ∧ Rp K F v d
  | _, _, _, _, .nil, e => by simp at e
  | _, _, 0, _, .cons h _, e => by simp at e; subst e; exact ⟨_, rfl, h⟩
  | _, _, i + 1, v, .cons _ r, e => by
    obtain ⟨d, e1, h⟩ := RpA.get (i := i) (v := v) r (by simpa using e)
    exact ⟨d, by simpa using e1, h⟩
theorem RpA.getD {K : Fg} {F : Hp} : ∀ {vs : List V} {ds : List D} {i : Nat} {d : D}, RpA K F vs ds → ds[i]? = some d → ∃ v, vs[i]? = some v ∧ Rp K F v d
  | _, _, _, _, .nil, e => by simp at e
  | _, _, 0, _, .cons h _, e => by simp at e; subst e; exact ⟨_, rfl, h⟩
  | _, _, i + 1, d, .cons _ r, e => by
    obtain ⟨v, e1, h⟩ := RpA.getD (i := i) (d := d) r (by simpa using e)
    exact ⟨v, by simpa using e1, h⟩
theorem RpA.append {K : Fg} {F : Hp} : ∀ {vs ws : List V} {ds es : List D}, RpA K F vs ds → RpA K F ws es → RpA K F (vs ++ ws) (ds ++ es)
  | _, _, _, _, .nil, s => s
  | _, _, _, _, .cons h r, s => .cons h (RpA.append r s)
theorem RpA.take {K : Fg} {F : Hp} : ∀ {vs : List V} {ds : List D} (n : Nat), RpA K F vs ds → RpA K F (vs.take n) (ds.take n)
  | _, _, 0, _ => .nil
  | _, _, _ + 1, .nil => .nil
  | _, _, n + 1, .cons h r => .cons h (RpA.take n r)
theorem RpA.drop {K : Fg} {F : Hp} : ∀ {vs : List V} {ds : List D} (n : Nat), RpA K F vs ds → RpA K F (vs.drop n) (ds.drop n)
  | _, _, 0, r => r
  | _, _, _ + 1, .nil => .nil
  | _, _, n + 1, .cons _ r => RpA.drop n r
theorem RpA.set {K : Fg} {F : Hp} {v : V} {d : D} (h : Rp K F v d) : ∀ {vs : List V} {ds : List D} (n : Nat), RpA K F vs ds → RpA K F (vs.set n v) (ds.set n d)
  | _, _, _, .nil => .nil
  | _, _, 0, .cons _ r => .cons h r
  | _, _, n + 1, .cons q r => .cons q (RpA.set h n r)
theorem RpA.rev {K : Fg} {F : Hp} {vs : List V} {ds : List D} (h : RpA K F vs ds) : RpA K F vs.reverse ds.reverse := by
  induction vs generalizing ds with
  | nil => cases h; exact .nil
  | cons v vs ih =>
    cases h with
    | cons a b =>
      rw [List.reverse_cons, List.reverse_cons]
      exact (ih b).append (.cons a .nil)
theorem Rp.noInt {K : Fg} {F : Hp} {v : V} {d : D} (h : Rp K F v d) : noIntV v = DL.noInt d := by cases h <;> rfl
theorem RpA.noInt {K : Fg} {F : Hp} : ∀ {vs : List V} {ds : List D}, RpA K F vs ds → vs.all noIntV = ds.all DL.noInt
  | _, _, .nil => rfl
  | _, _, .cons h r => by rw [List.all_cons, List.all_cons, h.noInt, RpA.noInt r]
/-- a new tuple is one -/
theorem TpOk.new {K : Fg} {F : Hp} {p : Addr} {o : Obj} {xs : List V} {ds : List D} (hd : o.dict = none) (h : RpA K F xs ds) : TpOk K (upd F p (tupO o xs)) p xs ds := by
  have e := h.noInt
  unfold tupO
  cases q : ds.all DL.noInt with
  | true =>
    rw [q] at e; rw [e]
    exact .inr ⟨.inl ⟨o, upd_same, hd⟩, q⟩
  | false =>
    rw [q] at e; rw [e]
    exact .inl ⟨upd_same, q⟩
/-- what a box holds -/
inductive MB where
  | L (ds : List D) | K (kvs : List (D × D)) | T (kvs : List (D × D))
def MB.toD : MB → D
  | .L ds => .list ds
  | .K kvs => .dict kvs
  | .T kvs => .dict kvs
/-- the object o is what the box holds, its parts in F -/
inductive MO (K : Fg) (F : Hp) : HO → MB → Prop
  | L {xs : List V} {ds : List D} : RpA K F xs ds → MO K F (.lst xs) (.L ds)
  | K {kvs : List (Key × V)} {ds : List (D × D)} : ds.map (·.1) = kvs.map (fun p => kD p.1) → RpA K F (kvs.map (·.2)) (ds.map (·.2)) → MO K F (.dK kvs) (.K ds)
  | T {kvs : List (List Key × V)} {ds : List (D × D)} : ds.map (·.1) = kvs.map (fun p => ktD p.1) → RpA K F (kvs.map (·.2)) (ds.map (·.2)) → MO K F (.dT kvs) (.T ds)
theorem MO.mono {K : Fg} {F H : Hp} (s : Sub F H) {o : HO} {m : MB} (h : MO K F o m) : MO K H o m := by
  cases h with
  | L r => exact .L (r.mono s)
  | K e r => exact .K e (r.mono s)
  | T e r => exact .T e (r.mono s)
/-- an object that holds m, its parts in F, seen in H -/
theorem MO.rp {K : Fg} {F H : Hp} {o : HO} {m : MB} {p : Addr} (h : MO K F o m) (s : Sub F H) (e : H p = some o) : Rp K H (.ref p) m.toD := by
  cases h with
  | L r => exact .lst (.inl e) (r.mono s)
  | K q r => exact .dct (.inl ⟨_, e, rfl, rfl⟩) (r.mono s) q rfl
  | T q r => exact .dct (.inr ⟨_, e, rfl, rfl⟩) (r.mono s) q rfl
inductive X1 where
  | val (d : D) | adr (n : Nat) (a : Addr)
inductive Nd where
  | lst (xs : List X1) | dK (kvs : List (D × X1)) | dT (kvs : List (D × X1))
  | ins (C : Str) (dx : Addr) (fs : List (Str × X1)) | dead
abbrev Gh := List (Addr × Nd)
inductive XOk (K : Fg) (F : Hp) : V → X1 → Prop
  | val {v : V} {d : D} : Rp K F v d → XOk K F v (.val d)
  | adr {n : Nat} {a : Addr} : XOk K F (.ref a) (.adr n a)
inductive XsOk (K : Fg) (F : Hp) : List V → List X1 → Prop
  | nil : XsOk K F [] []
  | cons {v : V} {vs : List V} {x : X1} {xs : List X1} : XOk K F v x → XsOk K F vs xs → XsOk K F (v :: vs) (x :: xs)
theorem XOk.mono {K : Fg} {F H : Hp} (s : Sub F H) {v : V} {x : X1} (h : XOk K F v x) : XOk K H v x := by
  cases h with
  | val a => exact .val (a.mono s)
  | adr => exact .adr
theorem XsOk.mono {K : Fg} {F H : Hp} (s : Sub F H) {v : List V} {x : List X1} (h : XsOk K F v x) : XsOk K H v x := by
  induction h with
  | nil => exact .nil
  | cons a _ ih => exact .cons (a.mono s) ih
/-- the object o is what the node tells -/
inductive NO (K : Fg) (F : Hp) : HO → Nd → Prop
  | lst {vs : List V} {xs : List X1} : XsOk K F vs xs → NO K F (.lst vs) (.lst xs)
  | dK {kvs : List (Key × V)} {ds : List (D × X1)} : ds.map (·.1) = kvs.map (fun p => kD p.1) → XsOk K F (kvs.map (·.2)) (ds.map (·.2)) → NO K F (.dK kvs) (.dK ds)
  | dT {kvs : List (List Key × V)} {ds : List (D × X1)} : ds.map (·.1) = kvs.map (fun p => ktD p.1) → XsOk K F (kvs.map (·.2)) (ds.map (·.2)) → NO K F (.dT kvs) (.dT ds)
  | ins {C : Str} {dx : Addr} {fs : List (Str × V)} {gs : List (Str × X1)} : (gs.map (·.1)).Nodup → gs.map (·.1) = fs.map (·.1) → XsOk K F (fs.map (·.2)) (gs.map (·.2)) → NO K F (.ins (He.ga K C) dx fs) (.ins C dx gs)
theorem NO.mono {K : Fg} {F H : Hp} (s : Sub F H) {o : HO} {x : Nd} (h : NO K F o x) : NO K H o x := by
  cases h with
  | lst r => exact .lst (r.mono s)
  | dK e r => exact .dK e (r.mono s)
  | dT e r => exact .dT e (r.mono s)
  | ins n e r => exact .ins n e (r.mono s)
def fpN : Addr × Nd → List Addr
  | (a, .ins _ dx _) => [a, dx]
  | (_, .dead) => []
  | (a, .lst _) => [a]
  | (a, .dK _) => [a]
  | (a, .dT _) => [a]
def fp (G : Gh) : List Addr := G.flatMap fpN
/-- a node stands in the heap -/
def NdOk (K : Fg) (F H : Hp) (x : Addr × Nd) : Prop := x.2 = .dead ∨ ((∃ o, H x.1 = some o ∧ NO K F o x.2) ∧ ∀ C dx fs, x.2 = .ins C dx fs → H dx = some (.own x.1))
inductive Ob where
  | scr (ns : List Int) | exc (C : Str) (fs : List (Str × D)) | tab (kvs : List (Str × Str)) | fn (x : Str)
/-- the exception at a: its class, its dict -/
def ExcO (a C : Addr) (d : Option Addr) : HO := .ext fun h => ∃ (oe : Obj) (vs : Array Value), h.get? a = some oe ∧ oe.cls = .ref C ∧ oe.dict = d ∧ oe.data = .fields vs
inductive ObOk (K : Fg) (F : Hp) : V → Ob → Prop
  | scr {a : Addr} {ns : List Int} : SqL K F a (ns.map V.int) → ObOk K F (.ref a) (.scr ns)
  | exc0 {a : Addr} {C : Str} : F a = some (ExcO a (He.ga K C) none) → ObOk K F (.ref a) (.exc C [])
  | exc {a dx : Addr} {C : Str} {gs : List (Str × V)} {fs : List (Str × D)} : F a = some (ExcO a (He.ga K C) (some dx)) → F dx = some (.xd gs) → fs.map (·.1) = gs.map (·.1) → RpA K F (gs.map (·.2)) (fs.map (·.2)) → ObOk K F (.ref a) (.exc C fs)
  | tab {a : Addr} {kvs : List (Str × Str)} : F a = some (.dK (kvs.map fun p => (.inr p.1, .ref (He.ga K p.2)))) → ObOk K F (.ref a) (.tab kvs)
  | fn {x : Str} : ObOk K F (.ref (He.ga K x)) (.fn x)
theorem ObOk.mono {K : Fg} {F H : Hp} (s : Sub F H) {v : V} {o : Ob} (h : ObOk K F v o) : ObOk K H v o := by
  cases h with
  | scr a => exact .scr (s.sqL a)
  | exc0 a => exact .exc0 (s _ _ a)
  | exc a b c d => exact .exc (s _ _ a) (s _ _ b) c (d.mono s)
  | tab a => exact .tab (s _ _ a)
  | fn => exact .fn
inductive Ce where
  | val (d : D) | box (prm : Bool) (m : MB) | ob (o : Ob) | adr (n : Nat) (a : Addr) | gh (G : Gh)
abbrev Ce.scr (ns : List Int) : Ce := .ob (.scr ns)
abbrev Rho := List (Option Ce)
/-- what an expression gives: a datum, a new object that nobody else holds, a reference to the box of slot i -/
inductive R where
  | val (d : D) | own (m : MB) | bor (i : Nat) | ob (o : Ob) | adr (n : Nat) (a : Addr)
abbrev R.scr (ns : List Int) : R := .ob (.scr ns)
/-- a frame's entry: F0 what stood frozen, P what is not ours and stays as it is, old: what stood -/
structure En where
  F0 : Hp
  P : Hp
  old : Addr → Prop
  prm : Nat → Option Addr
  /-- nodes that were handed in -/
  gp : Addr → Prop
structure GhOk (K : Fg) (e : En) (F H : Hp) (G : Gh) : Prop where
  nd : (fp G).Nodup
  at' : ∀ x ∈ G, NdOk K F H x
  fr : ∀ p ∈ fp G, F p = none ∧ e.P p = none ∧ (e.old p → e.gp p) ∧ H p ≠ none
theorem mem_fp {G : Gh} {x : Addr × Nd} (h : x ∈ G) (q : x.2 ≠ .dead) : x.1 ∈ fp G := by
  refine List.mem_flatMap.mpr ⟨x, h, ?_⟩
  obtain ⟨a, n⟩ := x
  cases n <;> first | exact List.mem_cons_self | exact absurd rfl q
theorem mem_fpi {G : Gh} {a dx : Addr} {C : Str} {fs : List (Str × X1)} (h : (a, Nd.ins C dx fs) ∈ G) : dx ∈ fp G :=
  List.mem_flatMap.mpr ⟨_, h, List.mem_cons_of_mem _ List.mem_cons_self⟩
theorem MO.ntup {K : Fg} {F : Hp} {o : HO} {m : MB} (h : MO K F o m) (xs : List V) : o ≠ .tup xs := by
  cases h <;> (intro z; cases z)
theorem NO.ntup {K : Fg} {F : Hp} {o : HO} {n : Nd} (h : NO K F o n) (xs : List V) : o ≠ .tup xs := by
  cases h <;> (intro z; cases z)
theorem GhOk.ntup {K : Fg} {e : En} {F H : Hp} {G : Gh} (h : GhOk K e F H G) {p : Addr} (hp : p ∈ fp G) (xs : List V) : H p ≠ some (.tup xs) := fun z => by
  obtain ⟨x, hx, hq⟩ := List.mem_flatMap.mp hp
  obtain ⟨a, n⟩ := x
  have hn := h.at' _ hx
  have go : ∀ {o : HO}, H a = some o → NO K F o n → H a ≠ some (.tup xs) := fun h1 h2 y => by
    rw [h1] at y
    exact h2.ntup xs (Option.some.inj y)
  rcases hn with q | ⟨⟨o, g1, g2⟩, g3⟩
  · simp only at q
    subst q
    simp [fpN] at hq
  · cases n with
    | dead => simp [fpN] at hq
    | lst ws =>
      simp [fpN] at hq
      subst hq
      exact go g1 g2 z
    | dK ws =>
      simp [fpN] at hq
      subst hq
      exact go g1 g2 z
    | dT ws =>
      simp [fpN] at hq
      subst hq
      exact go g1 g2 z
    | ins C dx fs =>
      simp [fpN] at hq
      rcases hq with rfl | rfl
      · exact go g1 g2 z
      · rw [g3 C _ fs rfl] at z; cases z
theorem GhOk.move {K : Fg} {e e' : En} {F F' H H' : Hp} {G : Gh} (h : GhOk K e F H G) (hF : Sub F F') (hH : ∀ p ∈ fp G, ∀ o, H p = some o → H' p = some o) (hf : ∀ p ∈ fp G, F' p = none) (he : ∀ p ∈ fp G, e'.P p = none ∧ (e'.old p → e'.gp p)) : GhOk K e' F' H' G where
  nd := h.nd
  at' := fun x hx => by
    rcases h.at' x hx with q | ⟨⟨o, g1, g2⟩, g3⟩
    · exact .inl q
    · by_cases z : x.2 = .dead
      · exact .inl z
      · refine .inr ⟨⟨o, hH _ (mem_fp hx z) _ g1, g2.mono hF⟩, fun C dx fs q => ?_⟩
        obtain ⟨a, n⟩ := x
        cases q
        exact hH _ (mem_fpi hx) _ (g3 C dx fs rfl)
  fr := fun p hp => by
    obtain ⟨_, _, _, h4⟩ := h.fr p hp
    refine ⟨hf p hp, (he p hp).1, (he p hp).2, ?_⟩
    cases q : H p with
    | none => exact absurd q h4
    | some o => rw [hH p hp o q]; simp
structure Ok (K : Fg) (e : En) (F : Hp) (r : Rho) (s : L2.St) (H : Hp) : Prop where
  len : r.length = s.length
  sub : Sub F H
  f0 : Sub e.F0 F
  prot : Sub e.P H
  new : ∀ a o, F a = some o → e.F0 a = some o ∨ e.P a = none ∨ ∃ xs, o = .tup xs
  dom : ∀ a, e.old a → H a ≠ none
  slot : ∀ (i : Nat) d, r[i]? = some (some (Ce.val d)) → ∃ v, s[i]? = some (some v) ∧ Rp K F v d
  box : ∀ (i : Nat) b m, r[i]? = some (some (Ce.box b m)) → ∃ p o, s[i]? = some (some (V.ref p)) ∧ H p = some o ∧ MO K F o m ∧ F p = none ∧ e.P p = none ∧ (b = false → ¬ e.old p) ∧ (b = true → e.prm i = some p)
  ob : ∀ (i : Nat) o, r[i]? = some (some (Ce.ob o)) → ∃ v, s[i]? = some (some v) ∧ ObOk K F v o
  sep : ∀ (i j : Nat) p b m b' m', r[i]? = some (some (Ce.box b m)) → r[j]? = some (some (Ce.box b' m')) → s[i]? = some (some (V.ref p)) → s[j]? = some (some (V.ref p)) → i = j
  adr : ∀ (i : Nat) n a, r[i]? = some (some (Ce.adr n a)) → s[i]? = some (some (V.ref a))
  gh : ∀ (i : Nat) G, r[i]? = some (some (Ce.gh G)) → GhOk K e F H G ∧ (∀ (j : Nat) b m p, r[j]? = some (some (Ce.box b m)) → s[j]? = some (some (V.ref p)) → p ∉ fp G) ∧ ∀ (j : Nat) G', r[j]? = some (some (Ce.gh G')) → j = i
  gpF : ∀ p, e.gp p → (∀ o, F p = some o → ∃ xs, o = .tup xs) ∧ e.old p
/-- p is no box's address and no node's -/
def NB (r : Rho) (s : L2.St) (p : Addr) : Prop := (∀ (i : Nat) b m', r[i]? = some (some (Ce.box b m')) → s[i]? ≠ some (some (V.ref p))) ∧ ∀ (i : Nat) G, r[i]? = some (some (Ce.gh G)) → p ∉ fp G
/-- a value is what an expression gave -/
inductive RR (K : Fg) (e : En) (F : Hp) (r : Rho) (s : L2.St) (H : Hp) : R → V → Prop
  | val {v : V} {d : D} : Rp K F v d → RR K e F r s H (.val d) v
  | own {p : Addr} {o : HO} {m : MB} : H p = some o → MO K F o m → F p = none → e.P p = none → ¬ e.old p → NB r s p → RR K e F r s H (.own m) (.ref p)
  | bor {i : Nat} {v : V} : s[i]? = some (some v) → (∃ b m, r[i]? = some (some (Ce.box b m))) → RR K e F r s H (.bor i) v
  | ob {v : V} {o : Ob} : ObOk K F v o → RR K e F r s H (.ob o) v
  | adr {n : Nat} {a : Addr} : RR K e F r s H (.adr n a) (.ref a)
/-- a wish about what an expression gives -/
abbrev Po := R → Rho → Prop
/-- what an expression does to data -/
abbrev ME := Rho → Po → Prop
def T (K : Fg) (e : En) (m : ME) : TE := fun s H Q => ∃ F r, Ok K e F r s H ∧ ∃ P : Po, m r P ∧ ∀ x r' v F' H', P x r' → Ok K e F' r' s H' → Sub F F' → RR K e F' r' s H' x v → Q v H'
def DE (X : Cx) (a : Expr) (m : ME) : Prop := ∀ e, PE X a (T X.K e m)
theorem PE.imp {X : Cx} {a : Expr} {t u : TE} (h : PE X a t) (i : ∀ s H Q, u s H Q → t s H Q) : PE X a u := ⟨fun pins s σ H Q I q => h.run pins s σ H Q I (i _ _ _ q)⟩
end DL
namespace DL
open PySem L2
section
variable {K : Fg} {e : En} {F : Hp} {r : Rho} {s : L2.St} {H : Hp} {p : Addr} {o : HO}
theorem Ok.free (k : Ok K e F r s H) (h : H p = none) : F p = none ∧ e.P p = none ∧ ¬ e.old p := by
  refine ⟨?_, ?_, fun z => k.dom p z h⟩
  · cases q : F p with
    | none => rfl
    | some u => rw [k.sub p u q] at h; cases h
  · cases q : e.P p with
    | none => rfl
    | some u => rw [k.prot p u q] at h; cases h
/-- a new object, not frozen -/
theorem Ok.alloc (k : Ok K e F r s H) (h : H p = none) : Ok K e F r s (upd H p o) where
  len := k.len
  sub := k.sub.trans (Sub.new h)
  f0 := k.f0
  prot := k.prot.trans (Sub.new h)
  new := k.new
  dom := fun a z => by
    by_cases q : a = p
    · subst q; rw [upd_same]; simp
    · rw [upd_ne q]; exact k.dom a z
  slot := k.slot
  box := fun i b m z => by
    obtain ⟨q, u, h1, h2, h3⟩ := k.box i b m z
    exact ⟨q, u, h1, Sub.new h q u h2, h3⟩
  ob := k.ob
  sep := k.sep
  adr := k.adr
  gh := fun i G z => by
    obtain ⟨g1, g2, g3⟩ := k.gh i G z
    exact ⟨g1.move (Sub.refl F) (fun q _ u w => Sub.new h q u w) (fun q w => (g1.fr q w).1) fun q w => ⟨(g1.fr q w).2.1, (g1.fr q w).2.2.1⟩, g2, g3⟩
  gpF := k.gpF
/-- an object that is no box's becomes frozen -/
theorem Ok.freeze (k : Ok K e F r s H) (h : H p = some o) (hF : F p = none) (hP : e.P p = none) (ho : ¬ e.old p) (hb : NB r s p) : Ok K e (upd F p o) r s H where
  len := k.len
  sub := fun a u q => by
    by_cases z : a = p
    · subst z; rw [upd_same] at q; cases q; exact h
    · rw [upd_ne z] at q; exact k.sub a u q
  f0 := k.f0.trans (Sub.new hF)
  prot := k.prot
  new := fun a u q => by
    by_cases z : a = p
    · subst z; exact .inr (.inl hP)
    · rw [upd_ne z] at q; exact k.new a u q
  dom := k.dom
  slot := fun i d z => by
    obtain ⟨v, h1, h2⟩ := k.slot i d z
    exact ⟨v, h1, h2.mono (Sub.new hF)⟩
  box := fun i b m z => by
    obtain ⟨q, u, h1, h2, h3, h4, h5⟩ := k.box i b m z
    have ne : q ≠ p := fun y => by subst y; exact hb.1 i b m z h1
    exact ⟨q, u, h1, h2, h3.mono (Sub.new hF), by rw [upd_ne ne]; exact h4, h5⟩
  ob := fun i ns z => by
    obtain ⟨a, g1, g2⟩ := k.ob i ns z
    exact ⟨a, g1, g2.mono (Sub.new hF)⟩
  sep := k.sep
  adr := k.adr
  gh := fun i G z => by
    obtain ⟨g1, g2, g3⟩ := k.gh i G z
    refine ⟨g1.move (Sub.new hF) (fun q _ u w => w) (fun q w => ?_) fun q w => ⟨(g1.fr q w).2.1, (g1.fr q w).2.2.1⟩, g2, g3⟩
    rw [upd_ne (fun y => by subst y; exact hb.2 i G z w)]
    exact (g1.fr q w).1
  gpF := fun q w => by
    rw [upd_ne (fun y => by subst y; exact ho (k.gpF q w).2)]
    exact k.gpF q w
theorem Ok.nobox (k : Ok K e F r s H) (h : H p = none) : NB r s p := by
  refine ⟨fun i b m z y => ?_, fun i G z w => ((k.gh i G z).1.fr p w).2.2.2 h⟩
  obtain ⟨q, u, h1, h2, _⟩ := k.box i b m z
  rw [y] at h1; cases h1; rw [h] at h2; cases h2
/-- a new frozen object -/
theorem Ok.lay (k : Ok K e F r s H) (h : H p = none) : Ok K e (upd F p o) r s (upd H p o) :=
  (k.alloc h).freeze upd_same (k.free h).1 (k.free h).2.1 (k.free h).2.2 (k.nobox h)
end
def R.tmp : R → R
  | .val d => .val d
  | .own m => .val m.toD
  | .bor i => .bor i
  | .ob ns => .ob ns
  | .adr n a => .adr n a
/-- a datum as it is looked at -/
def look (r : Rho) : R → Option D
  | .val d => some d
  | .own m => some m.toD
  | .bor i => match r[i]? with
    | some (some (.box _ m)) => some m.toD
    | _ => none
  | .ob _ => none
  | .adr _ _ => none
inductive RT (K : Fg) (F : Hp) (s : L2.St) : R → V → Prop
  | val {v : V} {d : D} : Rp K F v d → RT K F s (.val d) v
  | bor {i : Nat} {v : V} : s[i]? = some (some v) → RT K F s (.bor i) v
  | ob {v : V} {o : Ob} : ObOk K F v o → RT K F s (.ob o) v
  | adr {n : Nat} {a : Addr} : RT K F s (.adr n a) (.ref a)
theorem RT.mono {K : Fg} {F F' : Hp} {s : L2.St} {x : R} {v : V} (h : RT K F s x v) (q : Sub F F') : RT K F' s x v := by
  cases h with
  | val a => exact .val (a.mono q)
  | bor a => exact .bor a
  | ob a => exact .ob (a.mono q)
  | adr => exact .adr
/-- v looks like d in H, its parts in F -/
inductive Lk (K : Fg) (F H : Hp) : V → D → Prop
  | rp {v : V} {d : D} : Rp K F v d → Lk K F H v d
  | mo {p : Addr} {o : HO} {m : MB} : H p = some o → MO K F o m → Lk K F H (.ref p) m.toD
theorem Lk.all {K : Fg} {F H : Hp} {v : V} {d : D} (h : Lk K F H v d) (q : Sub F H) : Rp K H v d := by
  cases h with
  | rp a => exact a.mono q
  | mo a b => exact b.rp q a
theorem RT.look {K : Fg} {e : En} {F : Hp} {r : Rho} {s : L2.St} {H : Hp} {x : R} {v : V} {d : D} (h : RT K F s x v) (k : Ok K e F r s H) (q : DL.look r x = some d) : Lk K F H v d := by
  cases h with
  | val a => cases q; exact .rp a
  | @bor i v a =>
    simp only [DL.look] at q
    split at q
    · rename_i z
      cases q
      obtain ⟨p, o, h1, h2, h3, _⟩ := k.box _ _ _ z
      rw [a] at h1; cases h1
      exact .mo h2 h3
    · cases q
  | ob _ => cases q
  | adr => cases q
def Tt (K : Fg) (e : En) (m : ME) : TE := fun s H Q => ∃ F r, Ok K e F r s H ∧ ∃ P : Po, m r P ∧ ∀ x r' v F' H', P x r' → Ok K e F' r' s H' → Sub F F' → RT K F' s x v → Q v H'
def mTmp (m : ME) : ME := fun r P => m r fun x r' => P x.tmp r'
theorem RR.tmp {K : Fg} {e : En} {F : Hp} {r : Rho} {s : L2.St} {H : Hp} {x : R} {v : V} (h : RR K e F r s H x v) (k : Ok K e F r s H) : ∃ F', Ok K e F' r s H ∧ Sub F F' ∧ RT K F' s x.tmp v := by
  cases h with
  | val a => exact ⟨F, k, Sub.refl F, .val a⟩
  | @own p o m h1 h2 h3 h4 h5 h6 =>
    have k' := k.freeze h1 h3 h4 h5 h6
    exact ⟨_, k', Sub.new h3, .val (h2.rp (Sub.new h3) upd_same)⟩
  | bor a b => exact ⟨F, k, Sub.refl F, .bor a⟩
  | ob a => exact ⟨F, k, Sub.refl F, .ob a⟩
  | adr => exact ⟨F, k, Sub.refl F, .adr⟩
theorem DE.tmp {X : Cx} {a : Expr} {m : ME} (h : DE X a m) (e : En) : PE X a (Tt X.K e (mTmp m)) :=
  PE.imp (h e) fun s H Q ⟨F, r, k, P, hm, hP⟩ => ⟨F, r, k, _, hm, fun x r' v F' H' hx k' q hr => by
    obtain ⟨F2, k2, q2, t⟩ := hr.tmp k'
    exact hP _ r' v F2 H' hx k2 (q.trans q2) t⟩
def onO {α : Type} (o : Option α) (K : α → Prop) : Prop := match o with
  | some a => K a
  | none => False
theorem onO.ex {α : Type} {o : Option α} {K : α → Prop} (h : onO o K) : ∃ a, o = some a ∧ K a := by
  cases o with
  | none => exact h.elim
  | some a => exact ⟨a, rfl, h⟩
def onP {α β : Type} (o : Option (α × β)) (K : α → β → Prop) : Prop := match o with
  | some (a, b) => K a b
  | none => False
theorem onP.ex {α β : Type} {o : Option (α × β)} {K : α → β → Prop} (h : onP o K) : ∃ a b, o = some (a, b) ∧ K a b := by
  cases o with
  | none => exact h.elim
  | some a => exact ⟨a.1, a.2, rfl, h⟩
/-- what is asked, what goes on -/
def rqB (b : Bool) (A : Prop) : Prop := match b with
  | true => A
  | false => False
theorem rqB.ex {b : Bool} {A : Prop} (h : rqB b A) : b = true ∧ A := by
  cases b with
  | true => exact ⟨rfl, h⟩
  | false => exact h.elim
theorem rqB.mk {b : Bool} {A : Prop} (h : b = true) (a : A) : rqB b A := by subst h; exact a
abbrev Rq (c : Prop) [Decidable c] (A : Prop) : Prop := rqB (decide c) A
theorem Rq.c {c A : Prop} [Decidable c] (h : Rq c A) : c := of_decide_eq_true (rqB.ex h).1
theorem Rq.a {c A : Prop} [Decidable c] (h : Rq c A) : A := (rqB.ex h).2
theorem Rq.mk {c A : Prop} [Decidable c] (h : c) (a : A) : rqB (decide c) A := rqB.mk (decide_eq_true h) a
def brK (b : Bool) (A B : Prop) : Prop := match b with
  | true => A
  | false => B
/-- what an operation on data does: from d1, d2 the R z -/
abbrev F2 := D → D → Option R
def OpD (X : Cx) (g : Value → Value → Sem Value) (f : F2) : Prop := ∃ rr : R2, OpR X g rr ∧ ∀ (e : En) (F : Hp) (r : Rho) (s : L2.St) (H : Hp) (v1 v2 : V) (d1 d2 : D) (z : R) (Q : VK),
  Ok X.K e F r s H → Lk X.K F H v1 d1 → Lk X.K F H v2 d2 → f d1 d2 = some z → (∀ v F' H', Ok X.K e F' r s H' → Sub F F' → RR X.K e F' r s H' z v → Q v H') → rr v1 v2 H Q
theorem OpR.or {X : Cx} {g : Value → Value → Sem Value} {a b : R2} (h : OpR X g a) (h' : OpR X g b) : OpR X g (fun x y H Q => a x y H Q ∨ b x y H Q) := fun pins s σ H x y v u Q I rx ry q =>
  q.elim (h pins s σ H x y v u Q I rx ry) (h' pins s σ H x y v u Q I rx ry)
def orF (f g : F2) : F2 := fun a b => match f a b with
  | some z => some z
  | none => g a b
theorem OpD.or {X : Cx} {g : Value → Value → Sem Value} {f f' : F2} (h : OpD X g f) (h' : OpD X g f') : OpD X g (orF f f') := by
  obtain ⟨a, ha, qa⟩ := h
  obtain ⟨b, hb, qb⟩ := h'
  refine ⟨_, OpR.or ha hb, fun e F r s H v1 v2 d1 d2 z Q k l1 l2 q w => ?_⟩
  unfold orF at q
  split at q
  · rename_i y hy
    exact .inl (qa e F r s H v1 v2 d1 d2 z Q k l1 l2 (hy.trans q) w)
  · exact .inr (qb e F r s H v1 v2 d1 d2 z Q k l1 l2 q w)
/-- an operation and what it does, told so that it runs -/
structure OpK where
  f : F2
  k : D → D → (R → Prop) → Prop
  ok : ∀ d1 d2 K, k d1 d2 K → ∃ z, f d1 d2 = some z ∧ K z
def KOp (o : OpK) (P : Po) (x y : R) (r : Rho) : Prop := onO (look r x) fun d1 => onO (look r y) fun d2 => o.k d1 d2 fun z => P z r
theorem KOp.ex {o : OpK} {P : Po} {x y : R} {r : Rho} (h : KOp o P x y r) : ∃ d1 d2 z, look r x = some d1 ∧ look r y = some d2 ∧ o.f d1 d2 = some z ∧ P z r := by
  obtain ⟨d1, e1, h1⟩ := onO.ex h
  obtain ⟨d2, e2, h2⟩ := onO.ex h1
  obtain ⟨z, e3, h3⟩ := o.ok _ _ _ h2
  exact ⟨d1, d2, z, e1, e2, e3, h3⟩
def mOp (o : OpK) (ma mb : ME) : ME := fun r P => ma r fun x r1 => mb r1 fun y r2 => KOp o P x.tmp y.tmp r2
theorem mOp_read {X : Cx} {e : En} {o : OpK} {ma mb : ME} {rr : R2} (ho : ∀ (e : En) (F : Hp) (r : Rho) (s : L2.St) (H : Hp) (v1 v2 : V) (d1 d2 : D) (z : R) (Q : VK),
    Ok X.K e F r s H → Lk X.K F H v1 d1 → Lk X.K F H v2 d2 → o.f d1 d2 = some z → (∀ v F' H', Ok X.K e F' r s H' → Sub F F' → RR X.K e F' r s H' z v → Q v H') → rr v1 v2 H Q)
    {s : L2.St} {H : Hp} {Q : VK} (h : T X.K e (mOp o ma mb) s H Q) : tOp rr (Tt X.K e (mTmp ma)) (Tt X.K e (mTmp mb)) s H Q := by
  obtain ⟨F, r, k, P, hm, hP⟩ := h
  refine ⟨F, r, k, fun x r1 => mb r1 fun y r2 => KOp o P x y.tmp r2, hm, fun x r1 v1 F1 H1 hx k1 q1 t1 => ?_⟩
  refine ⟨F1, r1, k1, fun y r2 => KOp o P x y r2, hx, fun y r2 v2 F2 H2 hy k2 q2 t2 => ?_⟩
  obtain ⟨d1, d2, z, e1, e2, ef, hz⟩ := KOp.ex hy
  exact ho e F2 r2 s H2 v1 v2 d1 d2 z Q k2 ((t1.mono q2).look k2 e1) (t2.look k2 e2) ef fun v F' H' k' q' hr => hP z r2 v F' H' hz k' ((q1.trans q2).trans q') hr
section
variable {X : Cx} {a b : Expr} {ma mb : ME} {pos : Pos}
theorem de_op {op : Operator} {o : OpK} (ho : OpD X (binaryOp op) o.f) (ha : DE X a ma) (hb : DE X b mb) : DE X (.BinOp a op b pos) (mOp o ma mb) := fun e => by
  obtain ⟨rr, hr, hq⟩ := ho
  exact PE.imp (pe_op hr (ha.tmp e) (hb.tmp e)) fun s H Q h => mOp_read hq h
theorem de_cmp {op : CmpOp} {o : OpK} (ho : OpD X (compareOp op) o.f) (ha : DE X a ma) (hb : DE X b mb) (hm : behindInMarks op b = false) : DE X (.Compare a [op] [b] pos) (mOp o ma mb) := fun e => by
  obtain ⟨rr, hr, hq⟩ := ho
  exact PE.imp (pe_cmpR hr (ha.tmp e) (hb.tmp e) hm) fun s H Q h => mOp_read hq h
def mVal (d : D) : ME := fun r P => P (.val d) r
def mVar (i : Nat) : ME := fun r P => match r[i]? with
  | some (some (.val d)) => P (.val d) r
  | some (some (.box _ _)) => P (.bor i) r
  | some (some (.ob ns)) => P (.ob ns) r
  | some (some (.adr n a)) => P (.adr n a) r
  | _ => False
theorem de_var {i : Nat} {x : Str} (hN : X.N[i]? = some x) (hv : Vis X.env.scope x) (hd : (x == ("__debug__" : Str)) = false := by decide) (hcd : (x == ("__classdict__" : Str)) = false := by decide) : DE X (.Name x pos) (mVar i) := fun e =>
  PE.imp (pe_var hN hv hd hcd) fun s H Q ⟨F, r, k, P, hm, hP⟩ => by
    unfold mVar at hm
    split at hm
    · rename_i d z
      obtain ⟨v, h1, h2⟩ := k.slot i d z
      exact ⟨v, h1, hP _ r v F H hm k (Sub.refl F) (.val h2)⟩
    · rename_i b m z
      obtain ⟨p, o, h1, _⟩ := k.box i b m z
      exact ⟨_, h1, hP _ r _ F H hm k (Sub.refl F) (.bor h1 ⟨b, m, z⟩)⟩
    · rename_i ns z
      obtain ⟨a, h1, h2⟩ := k.ob i ns z
      exact ⟨_, h1, hP _ r _ F H hm k (Sub.refl F) (.ob h2)⟩
    · rename_i n a z
      exact ⟨_, k.adr i n a z, hP _ r _ F H hm k (Sub.refl F) .adr⟩
    · exact hm.elim
theorem de_const {v : V} {d : D} (h : PE X a (tC v)) (hd : ∀ F, Rp X.K F v d) : DE X a (mVal d) := fun e =>
  PE.imp h fun s H Q ⟨F, r, k, P, hm, hP⟩ => hP _ r v F H hm k (Sub.refl F) (.val (hd F))
theorem de_int {i j} : DE X (.Constant (.int i) j pos) (mVal (.int i)) := de_const pe_int fun _ => .int i
theorem de_bl {b j} : DE X (.Constant (.bool b) j pos) (mVal (.bool b)) := de_const pe_bl fun _ => .bl b
theorem de_non {j} : DE X (.Constant .none j pos) (mVal .none) := de_const pe_non fun _ => .non
theorem de_str {x j} : DE X (.Constant (.str x) j pos) (mVal (.str x)) := de_const pe_str fun _ => .str x
end
end DL
namespace DL
open PySem L2 PyProof.Rows
abbrev tobj (its : List Value) : Obj := { cls := .type "tuple", data := .seq its.toArray }
section
variable {X : Cx} {pins : List (Addr × Obj)} {σ : L2.St} {H : Hp} {s : Shared}
theorem tupO_ok {P : Program} {w : World} {H : Hp} {h : Heap} {p : Addr} {its : List Value} {xs : List V} (r : Vals xs its) (hz : xs.length ≤ sizeLine) (e : h.get? p = some (tobj its)) : ObjOk P w H h p (tupO (tobj its) xs) := by
  have go : ObjOk P w H h p (.tup xs) := ⟨hz, its, r, ⟨_, e, rfl, _, rfl⟩⟩
  unfold tupO
  cases xs.all noIntV with
  | true => exact ⟨e, go⟩
  | false => exact go
theorem Inv.ltup {its : List Value} {xs : List V} (I : Inv X pins σ H s) (r : Vals xs its) (hz : xs.length ≤ sizeLine) : Inv X pins σ (upd H s.heap.objs.size (tupO (tobj its) xs)) { s with heap := s.heap.push (tobj its) } :=
  I.laid (t' := s.toks) (fun b u e => Heap.get?_push_of_some _ e) (Nat.le_refl _) (tupO_ok r hz (Heap.get?_push_size _ rfl))
/-- what is wished of a new tuple -/
def newT (xs : List V) (H : Hp) (Q : VK) : Prop := ∀ p o, H p = none → o.dict = none → Q (.ref p) (upd H p (tupO o xs))
theorem ep_tup {its : List Value} {xs : List V} {Q : VK} (I : Inv X pins σ H s) (r : Vals xs its) (hz : xs.length ≤ sizeLine) (q : newT xs H Q) : EP X pins σ Q (.ref s.heap.objs.size) { s with heap := s.heap.push (tobj its) } :=
  ⟨.ref _, _, Inv.ltup I r hz, rfl, q _ _ (I.hok.fresh (Nat.le_refl _)) rfl⟩
def tTupZ (t : TA) : TE := fun σ H Q => t σ H fun xs H1 => xs.length ≤ sizeLine ∧ newT xs H1 Q
theorem pe_tupZ {es : List Expr} {t : TA} {pos : Pos} {x1} (h : PA X es t) : PE X (.Tuple es x1 pos) (tTupZ t) :=
  ⟨fun pins s σ H Q I hq => wpAny_Tuple_spliced (thn (h.run pos pins s σ H _ I hq) fun us s1 ⟨xs, H1, I1, r, z, q⟩ => ⟨by rw [← r.length]; exact z, ep_tup I1 r z q⟩)⟩
def rCatZ (K : Fg) : R2 := fun x y H Q => ∃ a b xs ys, x = .ref a ∧ y = .ref b ∧ SqT K H a xs ∧ SqT K H b ys ∧ xs.length + ys.length ≤ sizeLine ∧
  (xs = [] → Q (.ref b) H) ∧ (xs ≠ [] → ys = [] → Q (.ref a) H) ∧ (xs ≠ [] → ys ≠ [] → newT (xs ++ ys) H Q)
theorem op_catZ : OpR X (binaryOp .Add) (rCatZ X.K) := by
  intro pins s σ H x y v u Q I rx ry ⟨a, b, xs, ys, ex, ey, ha, hb, hz, q0, q1, q2⟩
  subst ex ey
  cases rx; cases ry
  obtain ⟨its, r1, p1, _⟩ := I.tuple ha
  obtain ⟨its2, r2, p2, _⟩ := I.tuple hb
  by_cases hx : xs = []
  · subst hx
    cases r1
    exact cat_tup0 p1 p2 ⟨.ref b, H, I, rfl, q0 rfl⟩
  · refine HT.cat_tup p1 p2 (fun z => hx (r1.nil_iff.mp z)) (fun z => ⟨.ref a, H, I, rfl, q1 hx (r2.nil_iff.mp z)⟩) (fun z => ?_) (by rw [← r1.length, ← r2.length]; exact hz)
    exact ep_tup I (r1.append r2) (by rw [List.length_append]; exact hz) (q2 hx fun w => z (r2.nil_iff.mpr w))
def rSlZ (K : Fg) : V → Option Int → Option Int → Hp → VK → Prop := fun x lo hi H Q => ∃ a xs, x = .ref a ∧ SqT K H a xs ∧
  (HT.sIx xs.length 0 lo = 0 ∧ HT.sIx xs.length xs.length hi = xs.length → Q (.ref a) H) ∧ (¬ (HT.sIx xs.length 0 lo = 0 ∧ HT.sIx xs.length xs.length hi = xs.length) → newT (cutV xs lo hi) H Q)
theorem sl_tupZ : SlR X (rSlZ X.K) := by
  intro pins s σ H x v vl vu lo hi sl Q I rx hs pl pu ⟨a, xs, ex, hx, q1, q2⟩
  subst ex
  cases rx
  obtain ⟨its, r, ht, hz⟩ := I.tuple hx
  have hl : its.toArray.size = xs.length := by rw [List.size_toArray, r.length]
  refine ⟨"tuple", _, PyProof.Rows.slot_tuple_getitem.lookup, ht.typeIs, ?_⟩
  by_cases hw : HT.sIx xs.length 0 lo = 0 ∧ HT.sIx xs.length xs.length hi = xs.length
  · exact getItem_tuple_whole ht hs pl pu (by rw [hl]; exact hw) ⟨.ref a, H, I, rfl, q1 hw⟩
  · refine HT.getItem_tuple_cut ht hs pl pu (by rw [hl]; exact hw) ?_ (by rw [hl]; exact hz)
    rw [hl]
    exact ep_tup I ((r.drop _).take _) (Nat.le_trans (cutV_length xs lo hi) hz) (q2 hw)
/-- tuple(x) -/
def rTupZ (K : Fg) (xs : List V) (H : Hp) (Q : VK) : Prop := (∃ p ys, xs = [.ref p] ∧ SqL K H p ys ∧ newT ys H Q) ∨ ∃ p ys, xs = [.ref p] ∧ SqT K H p ys ∧ Q (.ref p) H
theorem call_tupZ : CallR X (.type "tuple") (rTupZ X.K) := by
  intro pins s σ H xs us Q I r h
  rcases h with ⟨p, ys, e, hs, q⟩ | ⟨p, ys, e, hs, q⟩
  · subst e
    obtain ⟨u, e, ru⟩ := vals1 r
    subst e
    cases ru
    obtain ⟨its, rv, pl, hz⟩ := I.list hs
    refine call_tuple_list pl.isList (fun h' hk => ?_) (by rw [List.size_toArray, ← rv.length]; exact hz)
    exact ep_tup (s := { s with heap := h' }) (I.kept (t' := s.toks) hk) rv hz q
  · subst e
    obtain ⟨u, e, ru⟩ := vals1 r
    subst e
    cases ru
    obtain ⟨its, rv, pl, hz⟩ := I.tuple hs
    exact call_tuple_tup pl ⟨.ref p, H, I, rfl, q⟩
end
end DL
namespace DL
open PySem L2 PyProof.Rows
section
variable {X : Cx}
theorem Lk.int {K : Fg} {F H : Hp} {v : V} {i : Int} (h : Lk K F H v (.int i)) : v = .int i := by
  generalize e : (PyData.int i : D) = d at h
  cases h with
  | rp a => subst e; cases a; rfl
  | @mo p o m a b => cases m <;> cases e
theorem Lk.str {K : Fg} {F H : Hp} {v : V} {x : Str} (h : Lk K F H v (.str x)) : v = .str x := by
  generalize e : (PyData.str x : D) = d at h
  cases h with
  | rp a => subst e; cases a; rfl
  | @mo p o m a b => cases m <;> cases e
theorem Lk.bl {K : Fg} {F H : Hp} {v : V} {x : Bool} (h : Lk K F H v (.bool x)) : v = .bl x := by
  generalize e : (PyData.bool x : D) = d at h
  cases h with
  | rp a => subst e; cases a; rfl
  | @mo p o m a b => cases m <;> cases e
theorem Lk.non {K : Fg} {F H : Hp} {v : V} (h : Lk K F H v .none) : v = .non := by
  generalize e : (PyData.none : D) = d at h
  cases h with
  | rp a => subst e; cases a; rfl
  | @mo p o m a b => cases m <;> cases e
theorem Lk.lst {K : Fg} {F H : Hp} {v : V} {ds : List D} (h : Lk K F H v (.list ds)) (q : Sub F H) : ∃ a xs, v = .ref a ∧ Rd H a (.lst xs) ∧ RpA K F xs ds := by
  generalize e : (PyData.list ds : D) = d at h
  cases h with
  | rp a => subst e; cases a with | lst a b => exact ⟨_, _, rfl, q.rd a, b⟩
  | @mo p o m a b =>
    cases b with
    | L r => cases e; exact ⟨_, _, rfl, .inl a, r⟩
    | K => cases e
    | T => cases e
theorem Lk.tup {K : Fg} {F H : Hp} {v : V} {ds : List D} (h : Lk K F H v (.tuple ds)) (q : Sub F H) : ∃ a xs, v = .ref a ∧ SqT K H a xs ∧ RpA K F xs ds ∧ Rp K F v (.tuple ds) := by
  generalize e : (PyData.tuple ds : D) = d at h
  cases h with
  | rp a => subst e; exact (by cases a with | tup a b => exact ⟨_, _, rfl, q.sqT a.sqT, b, .tup a b⟩)
  | @mo p o m a b => cases m <;> cases e
theorem rd_list {P : Program} {w : World} {H : Hp} {h : Heap} {a : Addr} {xs : List V} (q : Rd H a (.lst xs)) (k : HOk P w H h) : xs.length ≤ sizeLine ∧ ∃ (its : List Value) (n : Nat), Vals xs its ∧ h.get? a = some { cls := .type "list", data := .seq its.toArray n } := by
  have z := q.ok k
  exact z
def rCatR : R2 := fun x y H Q => ∃ l b xs zs, x = .ref l ∧ y = .ref b ∧ Rd H l (.lst xs) ∧ Rd H b (.lst zs) ∧ xs.length + zs.length ≤ sizeLine ∧ ∀ p, H p = none → Q (.ref p) (upd H p (.lst (xs ++ zs)))
theorem op_catR : OpR X (binaryOp .Add) rCatR := by
  rintro pins s σ H _ _ v u Q I rx ry ⟨l, b, xs, zs, rfl, rfl, h1, h2, hz, q⟩
  cases rx; cases ry
  obtain ⟨_, i1, n1, r1, e1⟩ := rd_list h1 I.hok
  obtain ⟨_, i2, n2, r2, e2⟩ := rd_list h2 I.hok
  have l1 := r1.length
  have l2 := r2.length
  refine PySem.P.add_list e1 e2 ?_ (by rw [List.size_toArray, List.size_toArray]; omega)
  rw [show i1.toArray ++ i2.toArray = (i1 ++ i2).toArray by simp]
  exact ⟨.ref _, _, I.lnew (t' := s.toks) (r1.append r2) (by rw [List.length_append]; omega), rfl, q _ I.fresh⟩
/-- the answer is flat -/
theorem RR.flat {K : Fg} {e : En} {F : Hp} {r : Rho} {s : L2.St} {H : Hp} {v : V} {d : D} (h : Rp K F v d) : RR K e F r s H (.val d) v := .val h
/-- a new list, own -/
theorem RR.newL {K : Fg} {e : En} {F : Hp} {r : Rho} {s : L2.St} {H : Hp} {p : Addr} {xs : List V} {ds : List D} (k : Ok K e F r s H) (h : H p = none) (a : RpA K F xs ds) : RR K e F r s (upd H p (.lst xs)) (.own (.L ds)) (.ref p) :=
  .own upd_same (.L a) (k.free h).1 (k.free h).2.1 (k.free h).2.2 (k.nobox h)
theorem RR.newT {K : Fg} {e : En} {F : Hp} {r : Rho} {s : L2.St} {H : Hp} {p : Addr} {o : Obj} {xs : List V} {ds : List D} (k : Ok K e F r s H) (h : H p = none) (hd : o.dict = none) (a : RpA K F xs ds) : RR K e (upd F p (tupO o xs)) r s (upd H p (tupO o xs)) (.val (.tuple ds)) (.ref p) :=
  .val (.tup (TpOk.new hd a) (a.mono (Sub.new (k.free h).1)))
def fAdd : F2
  | .int i, .int j => some (.val (.int (i + j)))
  | .str a, .str b => if a.length + b.length ≤ sizeLine then some (.val (.str (a ++ b))) else none
  | .list a, .list b => if a.length + b.length ≤ sizeLine then some (.own (.L (a ++ b))) else none
  | .tuple a, .tuple b => if a.length + b.length ≤ sizeLine then some (.val (.tuple (a ++ b))) else none
  | _, _ => none
theorem opd_add : OpD X (binaryOp .Add) fAdd := by
  refine ⟨_, OpR.or op_add (OpR.or op_add_str (OpR.or op_catR op_catZ)), fun e F r s H v1 v2 d1 d2 z Q k l1 l2 ef w => ?_⟩
  unfold fAdd at ef
  split at ef
  · cases ef
    exact .inl ⟨_, _, l1.int, l2.int, w _ F H k (Sub.refl F) (.val (.int _))⟩
  · split at ef
    · rename_i hz; cases ef
      exact .inr (.inl ⟨_, _, l1.str, l2.str, hz, w _ F H k (Sub.refl F) (.val (.str _))⟩)
    · cases ef
  · split at ef
    · rename_i hz; cases ef
      obtain ⟨a, xs, e1, h1, r1⟩ := l1.lst k.sub
      obtain ⟨b, ys, e2, h2, r2⟩ := l2.lst k.sub
      refine .inr (.inr (.inl ⟨a, b, xs, ys, e1, e2, h1, h2, by rw [r1.length, r2.length]; exact hz, fun p hp => ?_⟩))
      exact w _ F _ (k.alloc hp) (Sub.refl F) (.newL k hp (r1.append r2))
    · cases ef
  · split at ef
    · rename_i hz; cases ef
      obtain ⟨a, xs, e1, h1, r1, p1⟩ := l1.tup k.sub
      obtain ⟨b, ys, e2, h2, r2, p2⟩ := l2.tup k.sub
      refine .inr (.inr (.inr ⟨a, b, xs, ys, e1, e2, h1, h2, by rw [r1.length, r2.length]; exact hz, fun q => ?_, fun _ q => ?_, fun _ _ p o hp hd => ?_⟩))
      · subst q; cases r1; subst e2; exact w _ F H k (Sub.refl F) (.val p2)
      · subst q; cases r2; subst e1; rw [List.append_nil] at w; exact w _ F H k (Sub.refl F) (.val p1)
      · exact w _ _ _ (k.lay hp) (Sub.new (k.free hp).1) (.newT k hp hd (r1.append r2))
    · cases ef
  · cases ef
def fSub : F2
  | .int i, .int j => some (.val (.int (i - j)))
  | _, _ => none
theorem opd_sub : OpD X (binaryOp .Sub) fSub := by
  refine ⟨_, op_sub, fun e F r s H v1 v2 d1 d2 z Q k l1 l2 ef w => ?_⟩
  unfold fSub at ef
  split at ef
  · cases ef
    exact ⟨_, _, l1.int, l2.int, w _ F H k (Sub.refl F) (.val (.int _))⟩
  · cases ef
def small (i : Int) : Bool := decide (-(2 ^ 64) < i) && decide (i < 2 ^ 64)
theorem op_mul_str : OpR X (binaryOp .Mult) (fun x y H Q => ∃ a n, x = .str a ∧ y = .int n ∧ MulOk a n ∧ Q (.str (Txt.mul a n)) H) := by
  rintro pins s σ H _ _ v u Q I rx ry ⟨a, n, rfl, rfl, hk, q⟩
  obtain ⟨t, rfl⟩ := rx
  obtain ⟨t', rfl⟩ := ry
  exact PySem.SB.mul hk fun t2 k => ⟨.str _, H, I.tok _, ⟨_, rfl⟩, q⟩
theorem mulOk_of {a : Str} {n : Int} (h : a.length * n.toNat ≤ 1000000) (h2 : n < 1000000) (h1 : -1000000 < n) : MulOk a n := by
  refine ⟨?_, fun h3 h4 => ?_, fun _ _ => ?_⟩
  · simp only [Bool.or_eq_false_iff, decide_eq_false_iff_not]
    omega
  · have hn : (1 : Int) ≤ n := by omega
    obtain ⟨m, rfl⟩ : ∃ m : Nat, n = (m : Int) := ⟨n.toNat, by omega⟩
    have h5 : a.length * m ≤ 1000000 := h
    have : (a.length : Int) * m ≤ 1000000 := by rw [← Int.natCast_mul]; omega
    have h6 : (a.length : Int) ≤ (2 ^ 63 - 1) / (m : Int) := (Int.le_ediv_iff_mul_le (by omega)).mpr (by omega)
    omega
  · have : sizeLine = 16777216 := sizeLine_eq
    exact decide_eq_false (by omega)
def fMul : F2
  | .int i, .int j => if small i || small j then some (.val (.int (i * j))) else none
  | .str a, .int n => if a.length * n.toNat ≤ 1000000 ∧ n < 1000000 ∧ -1000000 < n then some (.val (.str (Txt.mul a n))) else none
  | .tuple a, .int n => if a ≠ [] ∧ 2 ≤ n ∧ n ≤ 1000 ∧ a.length ≤ 1000 ∧ (List.replicate n.toNat a).flatten.all noInt = false then some (.val (.tuple (List.replicate n.toNat a).flatten)) else none
  | _, _ => none
theorem RpA.rep {K : Fg} {F : Hp} {vs : List V} {ds : List D} (h : RpA K F vs ds) (n : Nat) : RpA K F (List.replicate n vs).flatten (List.replicate n ds).flatten := by
  induction n with
  | zero => exact .nil
  | succ n ih => rw [List.replicate_succ, List.replicate_succ, List.flatten_cons, List.flatten_cons]; exact h.append ih
theorem RpA.ne {K : Fg} {F : Hp} {vs : List V} {ds : List D} (h : RpA K F vs ds) (q : ds ≠ []) : vs ≠ [] := by
  rintro rfl; cases h; exact q rfl
theorem opd_mul : OpD X (binaryOp .Mult) fMul := by
  refine ⟨_, OpR.or op_mul (OpR.or op_mul_str op_repT), fun e F r s H v1 v2 d1 d2 z Q k l1 l2 ef w => ?_⟩
  unfold fMul at ef
  split at ef
  · split at ef
    · rename_i hz; cases ef
      refine .inl ⟨_, _, l1.int, l2.int, ?_, w _ F H k (Sub.refl F) (.val (.int _))⟩
      simp only [small, Bool.or_eq_true, Bool.and_eq_true, decide_eq_true_eq] at hz
      exact hz
    · cases ef
  · split at ef
    · rename_i hz; cases ef
      exact .inr (.inl ⟨_, _, l1.str, l2.int, mulOk_of hz.1 hz.2.1 hz.2.2, w _ F H k (Sub.refl F) (.val (.str _))⟩)
    · cases ef
  · split at ef
    · rename_i hz; cases ef
      obtain ⟨a, xs, e1, h1, r1, p1⟩ := l1.tup k.sub
      refine .inr (.inr ⟨a, _, xs, e1, l2.int, h1, r1.ne hz.1, hz.2.1, hz.2.2.1, by rw [r1.length]; exact hz.2.2.2.1, fun p hp => ?_⟩)
      exact w _ _ _ (k.lay hp) (Sub.new (k.free hp).1) (.val (.tup (.inl ⟨upd_same, hz.2.2.2.2⟩) ((r1.rep _).mono (Sub.new (k.free hp).1))))
    · cases ef
  · cases ef
def fDiv : F2
  | .int i, .int j => if 0 < j ∧ j < 1073741824 then some (.val (.int (i / j))) else none
  | _, _ => none
theorem opd_div : OpD X (binaryOp .FloorDiv) fDiv := by
  refine ⟨_, op_fdiv, fun e F r s H v1 v2 d1 d2 z Q k l1 l2 ef w => ?_⟩
  unfold fDiv at ef
  split at ef
  · split at ef
    · rename_i hz; cases ef
      exact ⟨_, _, l1.int, l2.int, hz, w _ F H k (Sub.refl F) (.val (.int _))⟩
    · cases ef
  · cases ef
def fMod : F2
  | .int i, .int j => if 0 < j then some (.val (.int (i % j))) else none
  | _, _ => none
theorem opd_mod : OpD X (binaryOp .Mod) fMod := by
  refine ⟨_, op_mod, fun e F r s H v1 v2 d1 d2 z Q k l1 l2 ef w => ?_⟩
  unfold fMod at ef
  split at ef
  · split at ef
    · rename_i hz; cases ef
      exact ⟨_, _, l1.int, l2.int, hz, w _ F H k (Sub.refl F) (.val (.int _))⟩
    · cases ef
  · cases ef
def fPow : F2
  | .int i, .int j => if 0 ≤ j ∧ j ≤ 100 ∧ i.natAbs < 2 ^ 4096 then some (.val (.int (i ^ j.toNat))) else none
  | _, _ => none
theorem op_powW : OpR X (binaryOp .Pow) (rI (fun i j => 0 ≤ j ∧ j ≤ 100 ∧ i.natAbs < 2 ^ 4096) fun i j => .int (i ^ j.toNat)) := opI fun i j _ _ _ _ _ hc q => by
  refine pow_int hc.1 ?_ q
  have h1 : Builtin.Int.intBits i ≤ 4096 := intBits_le hc.2.2
  have h2 := hc.1
  have h3 := hc.2.1
  have : (Builtin.Int.intBits i : Int) * j ≤ 4096 * 100 := Int.mul_le_mul (by omega) h3 h2 (by omega)
  omega
theorem opd_pow : OpD X (binaryOp .Pow) fPow := by
  refine ⟨_, op_powW, fun e F r s H v1 v2 d1 d2 z Q k l1 l2 ef w => ?_⟩
  unfold fPow at ef
  split at ef
  · split at ef
    · rename_i hz; cases ef
      exact ⟨_, _, l1.int, l2.int, hz, w _ F H k (Sub.refl F) (.val (.int _))⟩
    · cases ef
  · cases ef
end
theorem rq_if {α : Type} {c A : Prop} [Decidable c] {x : α} (h : Rq c A) : (if c then some x else none) = some x := if_pos h.c
def kAdd : D → D → (R → Prop) → Prop
  | .int i, .int j, K => K (.val (.int (i + j)))
  | .str x, .str y, K => Rq (x.length + y.length ≤ sizeLine) (K (.val (.str (x ++ y))))
  | .list x, .list y, K => Rq (x.length + y.length ≤ sizeLine) (K (.own (.L (x ++ y))))
  | .tuple x, .tuple y, K => Rq (x.length + y.length ≤ sizeLine) (K (.val (.tuple (x ++ y))))
  | _, _, _ => False
def oAdd : OpK := ⟨fAdd, kAdd, fun d1 d2 K h => by
  cases d1 <;> cases d2 <;> first
    | exact h.elim
    | exact ⟨_, rfl, h⟩
    | exact ⟨_, rq_if h, Rq.a h⟩⟩
def kSub : D → D → (R → Prop) → Prop
  | .int i, .int j, K => K (.val (.int (i - j)))
  | _, _, _ => False
def oSub : OpK := ⟨fSub, kSub, fun d1 d2 K h => by
  cases d1 <;> cases d2 <;> first
    | exact h.elim
    | exact ⟨_, rfl, h⟩⟩
def kMul : D → D → (R → Prop) → Prop
  | .int i, .int j, K => Rq ((-(2 ^ 64) < i ∧ i < 2 ^ 64) ∨ (-(2 ^ 64) < j ∧ j < 2 ^ 64)) (K (.val (.int (i * j))))
  | .str a, .int n, K => Rq (a.length * n.toNat ≤ 1000000 ∧ n < 1000000 ∧ -1000000 < n) (K (.val (.str (Txt.mul a n))))
  | .tuple a, .int n, K => Rq (a ≠ [] ∧ 2 ≤ n ∧ n ≤ 1000 ∧ a.length ≤ 1000 ∧ (List.replicate n.toNat a).flatten.all noInt = false) (K (.val (.tuple (List.replicate n.toNat a).flatten)))
  | _, _, _ => False
def oMul : OpK := ⟨fMul, kMul, fun d1 d2 K h => by
  cases d1 <;> cases d2 <;> first
    | exact h.elim
    | exact ⟨_, rq_if h, Rq.a h⟩
    | (refine ⟨_, if_pos ?_, Rq.a h⟩
       simp only [small, Bool.or_eq_true, Bool.and_eq_true, decide_eq_true_eq]
       exact Rq.c h)⟩
def kDiv : D → D → (R → Prop) → Prop
  | .int i, .int j, K => Rq (0 < j ∧ j < 1073741824) (K (.val (.int (i / j))))
  | _, _, _ => False
def oDiv : OpK := ⟨fDiv, kDiv, fun d1 d2 K h => by
  cases d1 <;> cases d2 <;> first
    | exact h.elim
    | exact ⟨_, rq_if h, Rq.a h⟩⟩
def kMod : D → D → (R → Prop) → Prop
  | .int i, .int j, K => Rq (0 < j) (K (.val (.int (i % j))))
  | _, _, _ => False
def oMod : OpK := ⟨fMod, kMod, fun d1 d2 K h => by
  cases d1 <;> cases d2 <;> first
    | exact h.elim
    | exact ⟨_, rq_if h, Rq.a h⟩⟩
theorem big_pow {a : Int} (h1 : 0 ≤ a) (h2 : a ≤ 2 ^ 200) : a.natAbs < 2 ^ 4096 := by
  have h3 : a.natAbs ≤ 2 ^ 200 := by
    have : (a.natAbs : Int) ≤ ((2 ^ 200 : Nat) : Int) := by rw [Int.natAbs_of_nonneg h1]; exact h2
    exact Int.ofNat_le.mp this
  exact Nat.lt_of_le_of_lt h3 (Nat.pow_lt_pow_right (by decide) (by decide))
def kPow : D → D → (R → Prop) → Prop
  | .int i, .int j, K => Rq ((0 ≤ j ∧ j ≤ 100) ∧ 0 ≤ i ∧ i ≤ 2 ^ 200) (K (.val (.int (i ^ j.toNat))))
  | _, _, _ => False
def oPow : OpK := ⟨fPow, kPow, fun d1 d2 K h => by
  cases d1 <;> cases d2 <;> first
    | exact h.elim
    | exact ⟨_, if_pos ⟨(Rq.c h).1.1, (Rq.c h).1.2, big_pow (Rq.c h).2.1 (Rq.c h).2.2⟩, Rq.a h⟩⟩
end DL
namespace DL
open PySem L2 PyProof.Rows
section
variable {X : Cx}
def flatD : D → Bool
  | .none | .bool _ | .int _ | .str _ => true
  | _ => false
def toV : D → V
  | .none => .non
  | .bool b => .bl b
  | .int i => .int i
  | .str x => .str x
  | _ => .non
theorem Lk.flat {K : Fg} {F H : Hp} {v : V} {d : D} (h : Lk K F H v d) (f : flatD d = true) : v = toV d := by
  cases d <;> first
    | exact h.non
    | exact h.bl
    | exact h.int
    | exact h.str
    | cases f
theorem flatV_toV (d : D) (f : flatD d = true) : flatV (toV d) = true := by cases d <;> first | rfl | cases f
theorem eqV_toV (a b : D) (fa : flatD a = true) (fb : flatD b = true) : eqV (toV a) (toV b) = PyData.eqv a b := by
  cases a <;> cases b <;> first | rfl | exact Bool.noConfusion (show false = true from fa) | exact Bool.noConfusion (show false = true from fb)
/-- pairs of flat data that == tells apart as data -/
def scalD (a b : D) : Bool := flatD a && flatD b && scal (toV a) (toV b)
theorem scal_eq (a b : D) (h : scalD a b = true) : decide (toV a = toV b) = PyData.eqv a b := by
  simp only [scalD, Bool.and_eq_true] at h
  obtain ⟨⟨fa, fb⟩, h⟩ := h
  cases a <;> cases b <;> first
    | exact Bool.noConfusion (show false = true from fa)
    | exact Bool.noConfusion (show false = true from fb)
    | (simp [toV, PyData.eqv]; done)
    | (simp [toV, PyData.eqv, Bool.beq_eq_decide_eq]; done)
    | (exact absurd (show false = true from h) Bool.false_ne_true)
mutual
theorem Rp.dp {K : Fg} {H : Hp} : ∀ {v : V} {d : D}, Rp K H v d → d.hasDict = false → Dp K H v d
  | _, _, .non, _ => .non
  | _, _, .bl b, _ => .bl b
  | _, _, .int i, _ => .int i
  | _, _, .str x, _ => .str x
  | _, _, .lst h r, q => .lst (.inl h) (RpA.dp r (by simpa [PyData.hasDict] using q))
  | _, _, .tup h r, q => .tup h.sqT (RpA.dp r (by simpa [PyData.hasDict] using q))
  | _, _, .dct _ _ _ _, q => by simp [PyData.hasDict] at q
theorem RpA.dp {K : Fg} {H : Hp} : ∀ {v : List V} {d : List D}, RpA K H v d → PyData.hasDictAll d = false → DpAll K H v d
  | _, _, .nil, _ => .nil
  | _, _, .cons h r, q => by
    simp only [PyData.hasDictAll, Bool.or_eq_false_iff] at q
    exact .cons (Rp.dp h q.1) (RpA.dp r q.2)
end
theorem shaped_nodict {d : D} (h : SeqAt.shaped d = true) : d.hasDict = false := PyData.hasDict_of_canLay d (SeqAt.canLay_of_shaped h)
def fEqB (neg : Bool) : F2 := fun a b => if scalD a b || (SeqAt.shaped a && SeqAt.shaped b) then some (.val (.bool (if neg then !PyData.eqv a b else PyData.eqv a b))) else none
abbrev fEq : F2 := fEqB false
abbrev fNe : F2 := fEqB true
theorem opd_eq (hu : X.A.units + 64 < cLine) : OpD X (compareOp .Eq) fEq := by
  refine ⟨_, OpR.or op_eq (op_eqD hu), fun e F r s H v1 v2 d1 d2 z Q k l1 l2 ef w => ?_⟩
  simp only [fEq, fEqB] at ef
  split at ef
  · rename_i hh
    cases ef
    rcases Bool.or_eq_true_iff.mp hh with h | h
    · have h0 := h
      simp only [scalD, Bool.and_eq_true] at h0
      refine .inl ?_
      rw [l1.flat h0.1.1, l2.flat h0.1.2]
      refine ⟨h0.2, ?_⟩
      rw [scal_eq _ _ h]
      exact w _ F H k (Sub.refl F) (.val (.bl _))
    · rw [Bool.and_eq_true] at h
      exact .inr ⟨d1, d2, (l1.all k.sub).dp (shaped_nodict h.1), (l2.all k.sub).dp (shaped_nodict h.2), h.1, h.2, w _ F H k (Sub.refl F) (.val (.bl _))⟩
  · cases ef
theorem opd_ne (hu : X.A.units + 64 < cLine) : OpD X (compareOp .NotEq) fNe := by
  refine ⟨_, OpR.or op_ne (op_neD hu), fun e F r s H v1 v2 d1 d2 z Q k l1 l2 ef w => ?_⟩
  simp only [fNe, fEqB] at ef
  split at ef
  · rename_i hh
    cases ef
    rcases Bool.or_eq_true_iff.mp hh with h | h
    · have h0 := h
      simp only [scalD, Bool.and_eq_true] at h0
      refine .inl ?_
      rw [l1.flat h0.1.1, l2.flat h0.1.2]
      refine ⟨h0.2, ?_⟩
      rw [scal_eq _ _ h]
      exact w _ F H k (Sub.refl F) (.val (.bl _))
    · rw [Bool.and_eq_true] at h
      exact .inr ⟨d1, d2, (l1.all k.sub).dp (shaped_nodict h.1), (l2.all k.sub).dp (shaped_nodict h.2), h.1, h.2, w _ F H k (Sub.refl F) (.val (.bl _))⟩
  · cases ef
def fLt : F2
  | .int i, .int j => some (.val (.bool (decide (i < j))))
  | .str a, .str b => some (.val (.bool (decide (a.cps.toList < b.cps.toList))))
  | _, _ => none
theorem opd_lt : OpD X (compareOp .Lt) fLt := by
  refine ⟨_, OpR.or op_lt op_lt_str, fun e F r s H v1 v2 d1 d2 z Q k l1 l2 ef w => ?_⟩
  unfold fLt at ef
  split at ef
  · cases ef; exact .inl ⟨_, _, l1.int, l2.int, w _ F H k (Sub.refl F) (.val (.bl _))⟩
  · cases ef; exact .inr ⟨_, _, l1.str, l2.str, w _ F H k (Sub.refl F) (.val (.bl _))⟩
  · cases ef
def fLe : F2
  | .int i, .int j => some (.val (.bool (decide (i ≤ j))))
  | _, _ => none
theorem opd_le : OpD X (compareOp .LtE) fLe := by
  refine ⟨_, op_le, fun e F r s H v1 v2 d1 d2 z Q k l1 l2 ef w => ?_⟩
  unfold fLe at ef
  split at ef
  · cases ef; exact ⟨_, _, l1.int, l2.int, w _ F H k (Sub.refl F) (.val (.bl _))⟩
  · cases ef
def fGt : F2
  | .int i, .int j => some (.val (.bool (decide (j < i))))
  | _, _ => none
theorem opd_gt : OpD X (compareOp .Gt) fGt := by
  refine ⟨_, op_gt, fun e F r s H v1 v2 d1 d2 z Q k l1 l2 ef w => ?_⟩
  unfold fGt at ef
  split at ef
  · cases ef; exact ⟨_, _, l1.int, l2.int, w _ F H k (Sub.refl F) (.val (.bl _))⟩
  · cases ef
def fGe : F2
  | .int i, .int j => some (.val (.bool (decide (j ≤ i))))
  | _, _ => none
theorem opd_ge : OpD X (compareOp .GtE) fGe := by
  refine ⟨_, op_ge, fun e F r s H v1 v2 d1 d2 z Q k l1 l2 ef w => ?_⟩
  unfold fGe at ef
  split at ef
  · cases ef; exact ⟨_, _, l1.int, l2.int, w _ F H k (Sub.refl F) (.val (.bl _))⟩
  · cases ef
def strIn (a b : Str) : Bool := !(Builtin.Str.occurrences b a 0 b.length 1).isEmpty
def flatIn (x : D) (ds : List D) : Bool := ds.any fun y => PyData.eqv y x
def fInB (neg : Bool) : F2 := fun x y => match y with
  | .str b => match x with
    | .str a => some (.val (.bool (if neg then !strIn a b else strIn a b)))
    | _ => none
  | .list ds => if flatD x && ds.all flatD then some (.val (.bool (if neg then !flatIn x ds else flatIn x ds))) else if SeqAt.shaped x && SeqAt.shaped (.list ds) then some (.val (.bool (if neg then !flatIn x ds else flatIn x ds))) else none
  | .tuple ds => if flatD x && ds.all flatD then some (.val (.bool (if neg then !flatIn x ds else flatIn x ds))) else none
  | _ => none
abbrev fIn : F2 := fInB false
abbrev fNotIn : F2 := fInB true
theorem RpA.flat {K : Fg} {F : Hp} : ∀ {vs : List V} {ds : List D}, RpA K F vs ds → ds.all flatD = true → vs = ds.map toV
  | _, _, .nil, _ => rfl
  | _, _, .cons h r, q => by
    simp only [List.all_cons, Bool.and_eq_true] at q
    rw [List.map_cons, RpA.flat r q.2, (Lk.rp h : Lk K F F _ _).flat q.1]
theorem inV_flat (x : D) (ds : List D) (f : flatD x = true) (q : ds.all flatD = true) : inV (toV x) (ds.map toV) = flatIn x ds := by
  unfold inV flatIn
  induction ds with
  | nil => rfl
  | cons d ds ih =>
    simp only [List.all_cons, Bool.and_eq_true] at q
    rw [List.map_cons, List.any_cons, List.any_cons, ih q.2, eqV_toV _ _ q.1 f]
theorem all_flatV (ds : List D) (q : ds.all flatD = true) : (ds.map toV).all flatV = true := by
  rw [List.all_map]
  rw [List.all_eq_true] at q ⊢
  exact fun d hd => flatV_toV d (q d hd)
theorem in_read {K : Fg} {neg : Bool} {e : En} {F : Hp} {r : Rho} {s : L2.St} {H : Hp} {v1 v2 : V} {x : D} {ds : List D} {Q : VK} {a : Addr} {xs : List V} (k : Ok K e F r s H) (l1 : Lk K F H v1 x) (e2 : v2 = .ref a) (h2 : SqL K H a xs ∨ SqT K H a xs) (r2 : RpA K F xs ds)
    (hf : (flatD x && ds.all flatD) = true) (w : ∀ v F' H', Ok K e F' r s H' → Sub F F' → RR K e F' r s H' (.val (.bool (if neg then !flatIn x ds else flatIn x ds))) v → Q v H') : rIn K neg v1 v2 H Q := by
  rw [Bool.and_eq_true] at hf
  have q := r2.flat hf.2
  subst q
  refine ⟨a, _, e2, h2, by rw [l1.flat hf.1]; exact flatV_toV x hf.1, all_flatV ds hf.2, ?_⟩
  rw [l1.flat hf.1, inV_flat x ds hf.1 hf.2]
  exact w _ F H k (Sub.refl F) (.val (.bl _))
theorem opd_in (hu : X.A.units + 65 < cLine) : OpD X (compareOp .In) fIn := by
  refine ⟨_, OpR.or op_in_str (OpR.or op_in_seq (op_inD hu)), fun e F r s H v1 v2 d1 d2 z Q k l1 l2 ef w => ?_⟩
  simp only [fIn, fInB] at ef
  split at ef
  · split at ef
    · cases ef; exact .inl ⟨_, _, l1.str, l2.str, w _ F H k (Sub.refl F) (.val (.bl _))⟩
    · cases ef
  · split at ef
    · rename_i hf; cases ef
      obtain ⟨a, xs, e2, h2, r2⟩ := l2.lst k.sub
      exact .inr (.inl (in_read (neg := false) k l1 e2 (.inl (.inl h2)) r2 hf w))
    · split at ef
      · rename_i hf; cases ef
        rw [Bool.and_eq_true] at hf
        exact .inr (.inr ⟨_, _, (l1.all k.sub).dp (shaped_nodict hf.1), (l2.all k.sub).dp (shaped_nodict hf.2), hf.1, hf.2, w _ F H k (Sub.refl F) (.val (.bl _))⟩)
      · cases ef
  · split at ef
    · rename_i hf; cases ef
      obtain ⟨a, xs, e2, h2, r2, _⟩ := l2.tup k.sub
      exact .inr (.inl (in_read (neg := false) k l1 e2 (.inr h2) r2 hf w))
    · cases ef
  · cases ef
theorem opd_notin (hu : X.A.units + 65 < cLine) : OpD X (compareOp .NotIn) fNotIn := by
  refine ⟨_, OpR.or op_notin_str (OpR.or op_notIn_seq (op_notInD hu)), fun e F r s H v1 v2 d1 d2 z Q k l1 l2 ef w => ?_⟩
  simp only [fNotIn, fInB] at ef
  split at ef
  · split at ef
    · cases ef; exact .inl ⟨_, _, l1.str, l2.str, w _ F H k (Sub.refl F) (.val (.bl _))⟩
    · cases ef
  · split at ef
    · rename_i hf; cases ef
      obtain ⟨a, xs, e2, h2, r2⟩ := l2.lst k.sub
      exact .inr (.inl (in_read (neg := true) k l1 e2 (.inl (.inl h2)) r2 hf w))
    · split at ef
      · rename_i hf; cases ef
        rw [Bool.and_eq_true] at hf
        exact .inr (.inr ⟨_, _, (l1.all k.sub).dp (shaped_nodict hf.1), (l2.all k.sub).dp (shaped_nodict hf.2), hf.1, hf.2, w _ F H k (Sub.refl F) (.val (.bl _))⟩)
      · cases ef
  · split at ef
    · rename_i hf; cases ef
      obtain ⟨a, xs, e2, h2, r2, _⟩ := l2.tup k.sub
      exact .inr (.inl (in_read (neg := true) k l1 e2 (.inr h2) r2 hf w))
    · cases ef
  · cases ef
def isNone : D → Bool
  | .none => true
  | _ => false
theorem Lk.isN {K : Fg} {F H : Hp} {v : V} {d : D} (h : Lk K F H v d) : decide (v = .non) = isNone d := by
  cases h with
  | rp a => cases a <;> simp [isNone]
  | @mo p o m a b => cases m <;> simp [isNone, MB.toD]
def fIsB (neg : Bool) : F2 := fun a b => match b with
  | .none => some (.val (.bool (if neg then !isNone a else isNone a)))
  | .bool y => match a with
    | .bool x => some (.val (.bool (if neg then !decide (x = y) else decide (x = y))))
    | _ => none
  | _ => none
abbrev fIs : F2 := fIsB false
abbrev fIsNot : F2 := fIsB true
theorem opd_is : OpD X (compareOp .Is) fIs := by
  refine ⟨_, OpR.or op_isN op_is_bl, fun e F r s H v1 v2 d1 d2 z Q k l1 l2 ef w => ?_⟩
  simp only [fIs, fIsB] at ef
  split at ef
  · cases ef
    refine .inl ⟨l2.non, ?_⟩
    rw [l1.isN]
    exact w _ F H k (Sub.refl F) (.val (.bl _))
  · split at ef
    · cases ef; exact .inr ⟨_, _, l1.bl, l2.bl, w _ F H k (Sub.refl F) (.val (.bl _))⟩
    · cases ef
  · cases ef
theorem opd_isnot : OpD X (compareOp .IsNot) fIsNot := by
  refine ⟨_, OpR.or op_notN op_isnot_bl, fun e F r s H v1 v2 d1 d2 z Q k l1 l2 ef w => ?_⟩
  simp only [fIsNot, fIsB] at ef
  split at ef
  · cases ef
    refine .inl ⟨l2.non, ?_⟩
    rw [l1.isN]
    exact w _ F H k (Sub.refl F) (.val (.bl _))
  · split at ef
    · cases ef; exact .inr ⟨_, _, l1.bl, l2.bl, w _ F H k (Sub.refl F) (.val (.bl _))⟩
    · cases ef
  · cases ef
end
def kEq : D → D → (R → Prop) → Prop
  | .int a, .int b, K => K (.val (.bool (decide (a = b))))
  | .str a, .str b, K => K (.val (.bool (decide (a = b))))
  | a, b, K => rqB (scalD a b || (SeqAt.shaped a && SeqAt.shaped b)) (K (.val (.bool (PyData.eqv a b))))
def kNe : D → D → (R → Prop) → Prop
  | .int a, .int b, K => K (.val (.bool (!decide (a = b))))
  | .str a, .str b, K => K (.val (.bool (!decide (a = b))))
  | a, b, K => rqB (scalD a b || (SeqAt.shaped a && SeqAt.shaped b)) (K (.val (.bool (!PyData.eqv a b))))
theorem f_eq_int {a b : Int} : fEq (.int a) (.int b) = some (.val (.bool (decide (a = b)))) := by
  have h : scalD (.int a) (.int b) = true := by rfl
  simp [fEqB, h, PyData.eqv, Bool.beq_eq_decide_eq]
theorem f_ne_int {a b : Int} : fNe (.int a) (.int b) = some (.val (.bool (!decide (a = b)))) := by
  have h : scalD (.int a) (.int b) = true := by rfl
  simp [fEqB, h, PyData.eqv, Bool.beq_eq_decide_eq]
theorem f_eq_str {x y : Str} : fEq (.str x) (.str y) = some (.val (.bool (decide (x = y)))) := by
  have h : scalD (.str x) (.str y) = true := by rfl
  simp [fEqB, h, PyData.eqv, Bool.beq_eq_decide_eq]
theorem f_ne_str {x y : Str} : fNe (.str x) (.str y) = some (.val (.bool (!decide (x = y)))) := by
  have h : scalD (.str x) (.str y) = true := by rfl
  simp [fEqB, h, PyData.eqv, Bool.beq_eq_decide_eq]
theorem eq_ok {a b : D} {K : R → Prop} (h : rqB (scalD a b || (SeqAt.shaped a && SeqAt.shaped b)) (K (.val (.bool (PyData.eqv a b))))) : ∃ z, fEq a b = some z ∧ K z := by
  obtain ⟨h1, h2⟩ := rqB.ex h
  exact ⟨_, by simp only [fEqB, h1, if_true]; rfl, h2⟩
theorem ne_ok {a b : D} {K : R → Prop} (h : rqB (scalD a b || (SeqAt.shaped a && SeqAt.shaped b)) (K (.val (.bool (!PyData.eqv a b))))) : ∃ z, fNe a b = some z ∧ K z := by
  obtain ⟨h1, h2⟩ := rqB.ex h
  exact ⟨_, by simp only [fEqB, h1, if_true], h2⟩
def oEq : OpK := ⟨fEq, kEq, fun d1 d2 K h => by
  unfold kEq at h
  split at h
  · exact ⟨_, f_eq_int, h⟩
  · exact ⟨_, f_eq_str, h⟩
  · exact eq_ok h⟩
def oNe : OpK := ⟨fNe, kNe, fun d1 d2 K h => by
  unfold kNe at h
  split at h
  · exact ⟨_, f_ne_int, h⟩
  · exact ⟨_, f_ne_str, h⟩
  · exact ne_ok h⟩
def kLt : D → D → (R → Prop) → Prop
  | .int i, .int j, K => K (.val (.bool (decide (i < j))))
  | .str a, .str b, K => K (.val (.bool (decide (a.cps.toList < b.cps.toList))))
  | _, _, _ => False
def oLt : OpK := ⟨fLt, kLt, fun d1 d2 K h => by
  cases d1 <;> cases d2 <;> first
    | exact h.elim
    | exact ⟨_, rfl, h⟩⟩
def kLe : D → D → (R → Prop) → Prop
  | .int i, .int j, K => K (.val (.bool (decide (i ≤ j))))
  | _, _, _ => False
def oLe : OpK := ⟨fLe, kLe, fun d1 d2 K h => by
  cases d1 <;> cases d2 <;> first
    | exact h.elim
    | exact ⟨_, rfl, h⟩⟩
def kGt : D → D → (R → Prop) → Prop
  | .int i, .int j, K => K (.val (.bool (decide (j < i))))
  | _, _, _ => False
def oGt : OpK := ⟨fGt, kGt, fun d1 d2 K h => by
  cases d1 <;> cases d2 <;> first
    | exact h.elim
    | exact ⟨_, rfl, h⟩⟩
def kGe : D → D → (R → Prop) → Prop
  | .int i, .int j, K => K (.val (.bool (decide (j ≤ i))))
  | _, _, _ => False
def oGe : OpK := ⟨fGe, kGe, fun d1 d2 K h => by
  cases d1 <;> cases d2 <;> first
    | exact h.elim
    | exact ⟨_, rfl, h⟩⟩
def kInB (neg : Bool) (x y : D) (K : R → Prop) : Prop := match y with
  | .str b => match x with
    | .str a => K (.val (.bool (xor neg (strIn a b))))
    | _ => False
  | .list ds => rqB ((flatD x && ds.all flatD) || (SeqAt.shaped x && SeqAt.shaped (.list ds))) (K (.val (.bool (xor neg (flatIn x ds)))))
  | .tuple ds => rqB (flatD x && ds.all flatD) (K (.val (.bool (xor neg (flatIn x ds)))))
  | _ => False
theorem xor_if (neg b : Bool) : (if neg = true then !b else b) = xor neg b := by cases neg <;> cases b <;> rfl
theorem inB_ok (neg : Bool) (x y : D) (K : R → Prop) (h : kInB neg x y K) : ∃ z, fInB neg x y = some z ∧ K z := by
  unfold kInB at h
  unfold fInB
  split at h
  · split at h
    · exact ⟨_, by simp only [xor_if], h⟩
    · exact h.elim
  · obtain ⟨h1, h2⟩ := rqB.ex h
    rw [Bool.or_eq_true] at h1
    refine ⟨_, ?_, h2⟩
    simp only [xor_if]
    split
    · rfl
    · rename_i n
      rcases h1 with h1 | h1
      · exact absurd h1 n
      · rw [if_pos h1]
  · obtain ⟨h1, h2⟩ := rqB.ex h
    exact ⟨_, by simp only [h1, if_true, xor_if], h2⟩
  · exact h.elim
def oIn : OpK := ⟨fIn, kInB false, inB_ok false⟩
def oNotIn : OpK := ⟨fNotIn, kInB true, inB_ok true⟩
def kIsB (neg : Bool) (a b : D) (K : R → Prop) : Prop := match b with
  | .none => K (.val (.bool (xor neg (isNone a))))
  | .bool y => match a with
    | .bool x => K (.val (.bool (xor neg (decide (x = y)))))
    | _ => False
  | _ => False
theorem isB_ok (neg : Bool) (x y : D) (K : R → Prop) (h : kIsB neg x y K) : ∃ z, fIsB neg x y = some z ∧ K z := by
  unfold kIsB at h
  unfold fIsB
  split at h
  · exact ⟨_, by simp only [xor_if], h⟩
  · split at h
    · exact ⟨_, by simp only [xor_if], h⟩
    · exact h.elim
  · exact h.elim
def oIs : OpK := ⟨fIs, kIsB false, isB_ok false⟩
def oIsNot : OpK := ⟨fIsNot, kIsB true, isB_ok true⟩
end DL
namespace DL
open PySem L2 PyProof.Rows
abbrev PoB := Bool → Rho → Prop
abbrev MT := Rho → PoB → Prop
def TB (K : Fg) (e : En) (m : MT) : TT := fun s H Q => ∃ F r, Ok K e F r s H ∧ ∃ P : PoB, m r P ∧ ∀ b r' F' H', P b r' → Ok K e F' r' s H' → Sub F F' → Q b H'
def DT (X : Cx) (a : Expr) (m : MT) : Prop := ∀ e, PT X a (TB X.K e m)
theorem PT.imp {X : Cx} {a : Expr} {t u : TT} (h : PT X a t) (i : ∀ s H Q, u s H Q → t s H Q) : PT X a u := ⟨fun pins s σ H Q I q => h.run pins s σ H Q I (i _ _ _ q)⟩
def DW (X : Cx) (a : Expr) (m : MT) : Prop := ∀ e, PW X a (TB X.K e m)
theorem PW.imp {X : Cx} {a : Expr} {t u : TT} (h : PW X a t) (i : ∀ s H Q, u s H Q → t s H Q) : PW X a u := ⟨fun wh pins s σ H Q I q => h.run wh pins s σ H Q I (i _ _ _ q)⟩
def truth : D → Option Bool
  | .none => some false
  | .bool b => some b
  | .int i => some (i != 0)
  | .str x => if x.length ≤ sizeLine then some ((x.length : Int) != 0) else none
  | .list ds => some (!ds.isEmpty)
  | .tuple ds => some (!ds.isEmpty)
  | .dict _ => none
theorem RpA.isEmpty {K : Fg} {F : Hp} {vs : List V} {ds : List D} (h : RpA K F vs ds) : vs.isEmpty = ds.isEmpty := by cases h <;> rfl
theorem Lk.tru {K : Fg} {F H : Hp} {v : V} {d : D} {b : Bool} (h : Lk K F H v d) (q : Sub F H) (t : truth d = some b) : TruV K v H b := by
  cases d with
  | none => cases t; rw [h.non]; exact rfl
  | bool b => cases t; rw [h.bl]; exact rfl
  | int i => cases t; rw [h.int]; exact rfl
  | str x =>
    simp only [truth] at t
    split at t
    · rename_i hz; cases t; rw [h.str]; exact ⟨hz, rfl⟩
    · cases t
  | list ds =>
    cases t
    obtain ⟨a, xs, e, h1, r⟩ := h.lst q
    subst e
    exact .inl ⟨xs, .inl h1, by rw [r.isEmpty]⟩
  | tuple ds =>
    cases t
    obtain ⟨a, xs, e, h1, r, _⟩ := h.tup q
    subst e
    exact .inr (.inl ⟨xs, h1, by rw [r.isEmpty]⟩)
  | dict ds => cases t
def KTru (P : PoB) (x : R) (r : Rho) : Prop := onO (look r x) fun d => onO (truth d) fun b => P b r
theorem KTru.ex {P : PoB} {x : R} {r : Rho} (h : KTru P x r) : ∃ d b, look r x = some d ∧ truth d = some b ∧ P b r := by
  obtain ⟨d, e1, h1⟩ := onO.ex h
  obtain ⟨b, e2, h2⟩ := onO.ex h1
  exact ⟨d, b, e1, e2, h2⟩
def mTru (m : ME) : MT := fun r P => m r fun x r' => KTru P x.tmp r'
section
variable {X : Cx} {a b c : Expr} {ma mb mc : ME} {pos : Pos}
theorem dt_of (h : DE X a ma) (he : ∀ whole, isTrue a X.env whole = (do let v ← whole; standAt a.pos; holding [v] (truthy v)) := by intro _; rfl) : DT X a (mTru ma) := fun e =>
  PT.imp (pt_truth (h.tmp e) he) fun s H Q ⟨F, r, k, P, hm, hP⟩ => ⟨F, r, k, fun x r' => KTru P x r', hm, fun x r' v F' H' hx k' q' t => by
    obtain ⟨d, b, e1, e2, hp⟩ := KTru.ex hx
    exact ⟨b, (t.look k' e1).tru k'.sub e2, hP b r' F' H' hp k' q'⟩⟩
/-- a bool's value -/
def blOf : R → Option Bool
  | .val (.bool b) => some b
  | _ => none
def mTest (m : ME) : MT := fun r P => m r fun x r' => onO (blOf x) fun b => P b r'
theorem blOf_of {x : R} {b : Bool} (h : blOf x = some b) : x = .val (.bool b) := by
  unfold blOf at h
  split at h
  · cases h; rfl
  · cases h
theorem tTest_of {K : Fg} {e : En} {m : ME} {t : TE} (i : ∀ s H Q, T K e m s H Q → t s H Q) {s : L2.St} {H : Hp} {Q : Bool → Hp → Prop} (h : TB K e (mTest m) s H Q) : tTest t s H Q := by
  obtain ⟨F, r, k, P, hm, hP⟩ := h
  refine i s H _ ⟨F, r, k, _, hm, fun x r' v F' H' hx k' q' t => ?_⟩
  obtain ⟨b, e1, hp⟩ := onO.ex hx
  have := blOf_of e1
  subst this
  cases t with | val a => cases a; exact ⟨b, rfl, hP b r' F' H' hp k' q'⟩
theorem dt_cmp {op : CmpOp} {o : OpK} (ho : OpD X (compareOp op) o.f) (ha : DE X a ma) (hb : DE X b mb) (hm : behindInMarks op b = false) : DT X (.Compare a [op] [b] pos) (mTest (mOp o ma mb)) := fun e => by
  obtain ⟨rr, hr, hq⟩ := ho
  exact PT.imp (pt_cmpR hr (ha.tmp e) (hb.tmp e) hm) fun s H Q h => tTest_of (fun s H Q h => mOp_read hq h) h
def mChain (f g : OpK) (ma mb mc : ME) : ME := fun r P => ma r fun x r1 => mb r1 fun y r2 => KOp f (fun w r2 => onO (blOf w) fun k => brK k (mc r2 fun z r3 => KOp g P y.tmp z.tmp r3) (P (.val (.bool false)) r2)) x.tmp y.tmp r2
theorem chain_read {e : En} {f g : OpK} {rr rr' : R2} (ho : ∀ (e : En) (F : Hp) (r : Rho) (s : L2.St) (H : Hp) (v1 v2 : V) (d1 d2 : D) (z : R) (Q : VK),
    Ok X.K e F r s H → Lk X.K F H v1 d1 → Lk X.K F H v2 d2 → f.f d1 d2 = some z → (∀ v F' H', Ok X.K e F' r s H' → Sub F F' → RR X.K e F' r s H' z v → Q v H') → rr v1 v2 H Q)
    (ho' : ∀ (e : En) (F : Hp) (r : Rho) (s : L2.St) (H : Hp) (v1 v2 : V) (d1 d2 : D) (z : R) (Q : VK),
    Ok X.K e F r s H → Lk X.K F H v1 d1 → Lk X.K F H v2 d2 → g.f d1 d2 = some z → (∀ v F' H', Ok X.K e F' r s H' → Sub F F' → RR X.K e F' r s H' z v → Q v H') → rr' v1 v2 H Q)
    {s : L2.St} {H : Hp} {Q : VK} (h : T X.K e (mChain f g ma mb mc) s H Q) : tChain rr rr' (Tt X.K e (mTmp ma)) (Tt X.K e (mTmp mb)) (Tt X.K e (mTmp mc)) s H Q := by
  obtain ⟨F, r, k, P, hm, hP⟩ := h
  refine ⟨F, r, k, fun x r1 => mb r1 fun y r2 => KOp f (fun w r2 => onO (blOf w) fun k => brK k (mc r2 fun z r3 => KOp g P y.tmp z.tmp r3) (P (.val (.bool false)) r2)) x y.tmp r2, hm, fun x r1 v1 F1 H1 hx k1 q1 t1 => ?_⟩
  refine ⟨F1, r1, k1, fun y r2 => KOp f (fun w r2 => onO (blOf w) fun k => brK k (mc r2 fun z r3 => KOp g P y z.tmp r3) (P (.val (.bool false)) r2)) x y r2, hx, fun y r2 v2 F2 H2 hy k2 q2 t2 => ?_⟩
  obtain ⟨d1, d2, zz, e1, e2, ef, hzz⟩ := KOp.ex hy
  obtain ⟨kk, ek, hz⟩ := onO.ex hzz
  cases blOf_of ek
  refine ho e F2 r2 s H2 v1 v2 d1 d2 _ _ k2 ((t1.mono q2).look k2 e1) (t2.look k2 e2) ef fun v F3 H3 k3 q3 hr => ?_
  cases hr with | val a => ?_
  cases a
  refine ⟨kk, rfl, ?_⟩
  cases kk with
  | false =>
    rw [if_neg Bool.false_ne_true]
    exact hP _ r2 _ F3 H3 hz k3 ((q1.trans q2).trans q3) (.val (.bl _))
  | true =>
    rw [if_pos rfl]
    refine ⟨F3, r2, k3, fun z r3 => KOp g P y z r3, hz, fun z r3 v3 F4 H4 hz4 k4 q4 t4 => ?_⟩
    obtain ⟨d2', d3, w, g1, g2, eg, hw⟩ := KOp.ex hz4
    exact ho' e F4 r3 s H4 v2 v3 d2' d3 w Q k4 (((t2.mono q3).mono q4).look k4 g1) (t4.look k4 g2) eg fun v F5 H5 k5 q5 hr5 => hP w r3 v F5 H5 hw k5 ((((q1.trans q2).trans q3).trans q4).trans q5) hr5
theorem dt_chain {op op' : CmpOp} {f g : OpK} (ho : OpD X (compareOp op) f.f) (ho' : OpD X (compareOp op') g.f) (ha : DE X a ma) (hb : DE X b mb) (hc : DE X c mc) (hm : lastMarks [op, op'] [b, c] = false := by with_unfolding_all rfl) : DT X (.Compare a [op, op'] [b, c] pos) (mTest (mChain f g ma mb mc)) := fun e => by
  obtain ⟨rr, hr, hq⟩ := ho
  obtain ⟨rr', hr', hq'⟩ := ho'
  exact PT.imp (pt_chain hr hr' (ha.tmp e) (hb.tmp e) (hc.tmp e) hm) fun s H Q h => tTest_of (fun s H Q h => chain_read hq hq' h) h
variable {ta tb : MT} {rest : List Expr}
def bAnd (t u : MT) : MT := fun r P => t r fun b r1 => brK b (u r1 P) (P false r1)
def bOr (t u : MT) : MT := fun r P => t r fun b r1 => brK b (P true r1) (u r1 P)
def bNot (t : MT) : MT := fun r P => t r fun b r1 => P (!b) r1
theorem dw_and1 (ha : DT X a ta) : DW X (.BoolOp .And [a] pos) ta := fun e => pw_and1 (ha e)
theorem dw_or1 (ha : DT X a ta) : DW X (.BoolOp .Or [a] pos) ta := fun e => pw_or1 (ha e)
theorem dw_and (ha : DT X a ta) (hb : DW X (.BoolOp .And (b :: rest) pos) tb) : DW X (.BoolOp .And (a :: b :: rest) pos) (bAnd ta tb) := fun e =>
  PW.imp (pw_and (ha e) (hb e)) fun s H Q ⟨F, r, k, P, hm, hP⟩ => ⟨F, r, k, _, hm, fun c r1 F1 H1 hc k1 q1 => by
    cases c with
    | true => rw [if_pos rfl]; exact ⟨F1, r1, k1, P, hc, fun b r' F' H' hp k' q' => hP b r' F' H' hp k' (q1.trans q')⟩
    | false => rw [if_neg Bool.false_ne_true]; exact hP _ r1 F1 H1 hc k1 q1⟩
theorem dw_or (ha : DT X a ta) (hb : DW X (.BoolOp .Or (b :: rest) pos) tb) : DW X (.BoolOp .Or (a :: b :: rest) pos) (bOr ta tb) := fun e =>
  PW.imp (pw_or (ha e) (hb e)) fun s H Q ⟨F, r, k, P, hm, hP⟩ => ⟨F, r, k, _, hm, fun c r1 F1 H1 hc k1 q1 => by
    cases c with
    | true => rw [if_pos rfl]; exact hP _ r1 F1 H1 hc k1 q1
    | false => rw [if_neg Bool.false_ne_true]; exact ⟨F1, r1, k1, P, hc, fun b r' F' H' hp k' q' => hP b r' F' H' hp k' (q1.trans q')⟩⟩
theorem dt_w (h : DW X a ta) : DT X a ta := fun e => (h e).pt
theorem dt_not (h : DT X a ta) : DT X (.UnaryOp .Not a pos) (bNot ta) := fun e =>
  PT.imp (pt_not (h e)) fun s H Q ⟨F, r, k, P, hm, hP⟩ => ⟨F, r, k, _, hm, fun b r' F' H' hp k' q' => hP (!b) r' F' H' hp k' q'⟩
def mAnd (ma mb : ME) : ME := fun r P => ma r fun x r1 => KTru (fun b r1 => brK b (mb r1 P) (P x.tmp r1)) x.tmp r1
theorem RT.rr {K : Fg} {e : En} {F : Hp} {r : Rho} {s : L2.St} {H : Hp} {x : R} {v : V} {d : D} (h : RT K F s x v) (k : Ok K e F r s H) (q : DL.look r x = some d) : RR K e F r s H x v := by
  cases h with
  | val a => exact .val a
  | @bor i v a =>
    simp only [DL.look] at q
    split at q
    · rename_i z; exact .bor a ⟨_, _, z⟩
    · cases q
  | ob a => cases q
  | adr => cases q
theorem de_one {op : BoolOp} (ha : DE X a ma) : DE X (.BoolOp op [a] pos) ma := fun e => pe_one (ha e)
theorem de_and (ha : DE X a ma) (hb : DE X (.BoolOp .And (b :: rest) pos) mb) : DE X (.BoolOp .And (a :: b :: rest) pos) (mAnd ma mb) := fun e =>
  PE.imp (pe_andT (ha.tmp e) (hb e)) fun s H Q ⟨F, r, k, P, hm, hP⟩ => ⟨F, r, k, fun x r1 => KTru (fun b r1 => brK b (mb r1 P) (P x r1)) x r1, hm, fun x r1 v F1 H1 hx k1 q1 t1 => by
    obtain ⟨d, b, e1, e2, hc⟩ := KTru.ex hx
    refine ⟨b, (t1.look k1 e1).tru k1.sub e2, ?_⟩
    cases b with
    | true => rw [if_pos rfl]; exact ⟨F1, r1, k1, P, hc, fun x r' v F' H' hp k' q' hr => hP x r' v F' H' hp k' (q1.trans q') hr⟩
    | false => rw [if_neg Bool.false_ne_true]; exact hP x r1 v F1 H1 hc k1 q1 (t1.rr k1 e1)⟩
def mIf (t : MT) (ma mb : ME) : ME := fun r P => t r fun b r1 => brK b (ma r1 P) (mb r1 P)
theorem de_if (hc : DT X c ta) (ha : DE X a ma) (hb : DE X b mb) : DE X (.IfExp c a b pos) (mIf ta ma mb) := fun e =>
  PE.imp (pe_ifExp (hc e) (ha e) (hb e)) fun s H Q ⟨F, r, k, P, hm, hP⟩ => ⟨F, r, k, _, hm, fun c r1 F1 H1 hc k1 q1 => by
    cases c with
    | true => rw [if_pos rfl]; exact ⟨F1, r1, k1, P, hc, fun x r' v F' H' hp k' q' hr => hP x r' v F' H' hp k' (q1.trans q') hr⟩
    | false => rw [if_neg Bool.false_ne_true]; exact ⟨F1, r1, k1, P, hc, fun x r' v F' H' hp k' q' hr => hP x r' v F' H' hp k' (q1.trans q') hr⟩⟩
/-- an int -/
def inOf : R → Option Int
  | .val (.int i) => some i
  | _ => none
theorem inOf_of {x : R} {i : Int} (h : inOf x = some i) : x = .val (.int i) := by
  unfold inOf at h
  split at h
  · cases h; rfl
  · cases h
def mNeg (ma : ME) : ME := fun r P => ma r fun x r1 => onO (inOf x) fun i => P (.val (.int (-i))) r1
theorem de_neg (ha : DE X a ma) : DE X (.UnaryOp .USub a pos) (mNeg ma) := fun e =>
  PE.imp (pe_un un_neg (ha e)) fun s H Q ⟨F, r, k, P, hm, hP⟩ => ⟨F, r, k, _, hm, fun x r1 v F1 H1 hx k1 q1 t1 => by
    obtain ⟨i, ei, hc⟩ := onO.ex hx
    have e1 := inOf_of ei
    subst e1
    cases t1 with | val a => cases a; exact ⟨i, rfl, hP _ r1 _ F1 H1 hc k1 q1 (.val (.int _))⟩⟩
end
end DL
namespace DL
open PySem L2 PyProof.Rows
abbrev PoA := List R → Rho → Prop
abbrev MA := Rho → PoA → Prop
inductive RTs (K : Fg) (F : Hp) (s : L2.St) : List R → List V → Prop
  | nil : RTs K F s [] []
  | cons {x : R} {v : V} {xs : List R} {vs : List V} : RT K F s x v → RTs K F s xs vs → RTs K F s (x :: xs) (v :: vs)
theorem RTs.mono {K : Fg} {F F' : Hp} {s : L2.St} {xs : List R} {vs : List V} (h : RTs K F s xs vs) (q : Sub F F') : RTs K F' s xs vs := by
  induction h with
  | nil => exact .nil
  | cons a _ ih => exact .cons (a.mono q) ih
def TAl (K : Fg) (e : En) (m : MA) : TA := fun s H Q => ∃ F r, Ok K e F r s H ∧ ∃ P : PoA, m r P ∧ ∀ xs r' vs F' H', P xs r' → Ok K e F' r' s H' → Sub F F' → RTs K F' s xs vs → Q vs H'
def DA (X : Cx) (as : List Expr) (m : MA) : Prop := ∀ e, PA X as (TAl X.K e m)
theorem PA.imp {X : Cx} {a : List Expr} {t u : TA} (h : PA X a t) (i : ∀ s H Q, u s H Q → t s H Q) : PA X a u := ⟨fun pos pins s σ H Q I q => h.run pos pins s σ H Q I (i _ _ _ q)⟩
def aNil : MA := fun r P => P [] r
def aCons (m : ME) (ms : MA) : MA := fun r P => m r fun x r1 => ms r1 fun xs r2 => P (x.tmp :: xs) r2
def looks (r : Rho) : List R → Option (List D)
  | [] => some []
  | x :: xs => match look r x, looks r xs with
    | some d, some ds => some (d :: ds)
    | _, _ => none
/-- values that look like data -/
inductive LkA (K : Fg) (F H : Hp) : List V → List D → Prop
  | nil : LkA K F H [] []
  | cons {v : V} {d : D} {vs : List V} {ds : List D} : Lk K F H v d → LkA K F H vs ds → LkA K F H (v :: vs) (d :: ds)
theorem RTs.looks {K : Fg} {e : En} {F : Hp} {r : Rho} {s : L2.St} {H : Hp} {xs : List R} {vs : List V} {ds : List D} (h : RTs K F s xs vs) (k : Ok K e F r s H) (q : DL.looks r xs = some ds) : LkA K F H vs ds := by
  induction h generalizing ds with
  | nil => cases q; exact .nil
  | cons a _ ih =>
    simp only [DL.looks] at q
    split at q
    · rename_i e1 e2; cases q; exact .cons (a.look k e1) (ih e2)
    · cases q
section
variable {X : Cx} {a b c : Expr} {ma mb mc : ME} {pos : Pos} {es : List Expr} {ms : MA}
theorem da_nil : DA X [] aNil := fun e => PA.imp pa_nil fun s H Q ⟨F, r, k, P, hm, hP⟩ => hP _ r _ F H hm k (Sub.refl F) .nil
theorem da_cons (ha : DE X a ma) (hr : DA X es ms) (hs : starEach (a :: es) X.env = (false, eval a X.env) :: starEach es X.env := by rfl) : DA X (a :: es) (aCons ma ms) := fun e =>
  PA.imp (pa_cons (ha.tmp e) (hr e) hs) fun s H Q ⟨F, r, k, P, hm, hP⟩ => ⟨F, r, k, fun x r1 => ms r1 fun xs r2 => P (x :: xs) r2, hm, fun x r1 v F1 H1 hx k1 q1 t1 =>
    ⟨F1, r1, k1, _, hx, fun xs r2 vs F2 H2 hxs k2 q2 t2 => hP _ r2 _ F2 H2 hxs k2 (q1.trans q2) (.cons (t1.mono q2) t2)⟩⟩
/-- x is held: its datum, the cells behind it -/
def hold (r : Rho) : R → Option (D × Rho)
  | .val d => some (d, r)
  | .own m => some (m.toD, r)
  | .bor i => match r[i]? with
    | some (some (.box false m)) => some (m.toD, r.set i (some (.val m.toD)))
    | _ => none
  | .ob _ => none
  | .adr _ _ => none
def holds (r : Rho) : List R → Option (List D × Rho)
  | [] => some ([], r)
  | x :: xs => match hold r x with
    | some (d, r1) => match holds r1 xs with
      | some (ds, r2) => some (d :: ds, r2)
      | none => none
    | none => none
end
section
variable {K : Fg} {e : En} {F : Hp} {r : Rho} {s : L2.St} {H : Hp}
theorem get_set {α : Type} {l : List α} {i j : Nat} {x y : α} (h : (l.set i x)[j]? = some y) : (i = j ∧ x = y) ∨ (i ≠ j ∧ l[j]? = some y) := by
  by_cases q : i = j
  · subst q
    have hl : i < l.length := by
      have := (List.getElem?_eq_some_iff.mp h).1
      simpa using this
    rw [List.getElem?_set_self hl] at h
    exact .inl ⟨rfl, Option.some.inj h⟩
  · rw [List.getElem?_set_ne q] at h
    exact .inr ⟨q, h⟩
/-- a box becomes a datum -/
theorem Ok.freezeBox {i : Nat} {m : MB} (k : Ok K e F r s H) (h : r[i]? = some (some (Ce.box false m))) : ∃ F' v, Ok K e F' (r.set i (some (.val m.toD))) s H ∧ Sub F F' ∧ s[i]? = some (some v) ∧ Rp K F' v m.toD := by
  obtain ⟨p, o, h1, h2, h3, h4, h5, h6⟩ := k.box i false m h
  have rp : Rp K (upd F p o) (.ref p) m.toD := h3.rp (Sub.new h4) upd_same
  have nb : ∀ (j : Nat) b m', r[j]? = some (some (Ce.box b m')) → s[j]? = some (some (V.ref p)) → j = i := fun j b m' z y => k.sep j i p b m' false m z h y h1
  refine ⟨upd F p o, .ref p, ⟨by rw [List.length_set]; exact k.len, ?_, ?_, k.prot, ?_, k.dom, ?_, ?_, ?_, ?_, ?_, ?_, ?_⟩, Sub.new h4, h1, rp⟩
  · intro a u q
    by_cases z : a = p
    · subst z; rw [upd_same] at q; cases q; exact h2
    · rw [upd_ne z] at q; exact k.sub a u q
  · exact k.f0.trans (Sub.new h4)
  · intro a u q
    by_cases z : a = p
    · subst z; exact .inr (.inl h5)
    · rw [upd_ne z] at q; exact k.new a u q
  · intro j d z
    rcases get_set z with ⟨e1, e2⟩ | ⟨e1, e2⟩
    · cases e2; subst e1; exact ⟨_, h1, rp⟩
    · obtain ⟨v, g1, g2⟩ := k.slot j d e2
      exact ⟨v, g1, g2.mono (Sub.new h4)⟩
  · intro j b m' z
    rcases get_set z with ⟨e1, e2⟩ | ⟨e1, e2⟩
    · cases e2
    · obtain ⟨q, u, g1, g2, g3, g4, g5, g6⟩ := k.box j b m' e2
      have ne : q ≠ p := fun y => by subst y; exact e1 (nb j b m' e2 g1).symm
      exact ⟨q, u, g1, g2, g3.mono (Sub.new h4), by rw [upd_ne ne]; exact g4, g5, g6⟩
  · intro j ns z
    rcases get_set z with ⟨e1, e2⟩ | ⟨e1, e2⟩
    · cases e2
    · obtain ⟨a, g1, g2⟩ := k.ob j ns e2
      exact ⟨a, g1, g2.mono (Sub.new h4)⟩
  · intro j1 j2 q b m' b' m'' z1 z2
    rcases get_set z1 with ⟨_, e2⟩ | ⟨_, e2⟩
    · cases e2
    · rcases get_set z2 with ⟨_, e4⟩ | ⟨_, e4⟩
      · cases e4
      · exact k.sep j1 j2 q b m' b' m'' e2 e4
  · intro j n a z
    rcases get_set z with ⟨e1, e2⟩ | ⟨e1, e2⟩
    · cases e2
    · exact k.adr j n a e2
  · intro j G z
    rcases get_set z with ⟨e1, e2⟩ | ⟨e1, e2⟩
    · cases e2
    · obtain ⟨g1, g2, g3⟩ := k.gh j G e2
      refine ⟨g1.move (Sub.new h4) (fun q _ u w => w) (fun q w => ?_) fun q w => ⟨(g1.fr q w).2.1, (g1.fr q w).2.2.1⟩, fun j2 b' m' q z' => ?_, fun j2 G' z' => ?_⟩
      · rw [upd_ne (fun y => by subst y; exact g2 i false m q h h1 w)]
        exact (g1.fr q w).1
      · rcases get_set z' with ⟨_, e4⟩ | ⟨_, e4⟩
        · cases e4
        · exact g2 j2 b' m' q e4
      · rcases get_set z' with ⟨_, e4⟩ | ⟨_, e4⟩
        · cases e4
        · exact g3 j2 G' e4
  · intro q w
    rw [upd_ne (fun y => by subst y; exact h6.1 rfl (k.gpF q w).2)]
    exact k.gpF q w
/-- what was looked at before a freezing is what it was -/
theorem RT.hold {x : R} {v : V} {d : D} {r1 : Rho} (t : RT K F s x v) (k : Ok K e F r s H) (q : DL.hold r x = some (d, r1)) : ∃ F', Ok K e F' r1 s H ∧ Sub F F' ∧ Rp K F' v d := by
  cases t with
  | val a => cases q; exact ⟨F, k, Sub.refl F, a⟩
  | @bor i v a =>
    simp only [DL.hold] at q
    split at q
    · rename_i z; cases q
      obtain ⟨F', v', k', s', g1, g2⟩ := k.freezeBox z
      rw [a] at g1; cases g1
      exact ⟨F', k', s', g2⟩
    · cases q
  | ob _ => cases q
  | adr => cases q
theorem RTs.holds {xs : List R} : ∀ {F : Hp} {r : Rho} {vs : List V} {ds : List D} {r1 : Rho}, RTs K F s xs vs → Ok K e F r s H → DL.holds r xs = some (ds, r1) → ∃ F', Ok K e F' r1 s H ∧ Sub F F' ∧ RpA K F' vs ds := by
  induction xs with
  | nil => intro F r vs ds r1 t k q; cases t; cases q; exact ⟨F, k, Sub.refl F, .nil⟩
  | cons x xs ih =>
    intro F r vs ds r1 t k q
    cases t with
    | cons a t =>
      simp only [DL.holds] at q
      split at q
      · rename_i e1
        split at q
        · rename_i e2; cases q
          obtain ⟨F1, k1, s1, p1⟩ := a.hold k e1
          obtain ⟨F2, k2, s2, p2⟩ := ih (t.mono s1) k1 e2
          exact ⟨F2, k2, s1.trans s2, .cons (p1.mono s2) p2⟩
        · cases q
      · cases q
end
section
variable {X : Cx} {a b c : Expr} {ma mb mc : ME} {pos : Pos} {es : List Expr} {ms : MA}
def mTup (ms : MA) : ME := fun r P => ms r fun xs r1 => onP (holds r1 xs) fun qa qb => Rq (qa.length ≤ sizeLine) (P (.val (.tuple qa)) qb)
def mLst (ms : MA) : ME := fun r P => ms r fun xs r1 => onP (holds r1 xs) fun qa qb => Rq (qa.length ≤ sizeLine) (P (.own (.L qa)) qb)
theorem de_tup {x1} (h : DA X es ms) : DE X (.Tuple es x1 pos) (mTup ms) := fun e =>
  PE.imp (pe_tupZ (h e)) fun s H Q ⟨F, r, k, P, hm, hP⟩ => ⟨F, r, k, _, hm, fun xs r1 vs F1 H1 hx k1 q1 t1 => by
    obtain ⟨ds, r2, hh, hq⟩ := onP.ex hx
    have hz := Rq.c hq
    have hp := Rq.a hq
    obtain ⟨F2, k2, q2, p2⟩ := t1.holds k1 hh
    exact ⟨by rw [p2.length]; exact hz, fun p o np nd => hP _ r2 _ _ _ hp (k2.lay np) ((q1.trans q2).trans (Sub.new (k2.free np).1)) (.newT k2 np nd p2)⟩⟩
theorem de_lst (h : DA X es ms) : DE X (.List es pos) (mLst ms) := fun e =>
  PE.imp (pe_lst (h e)) fun s H Q ⟨F, r, k, P, hm, hP⟩ => ⟨F, r, k, _, hm, fun xs r1 vs F1 H1 hx k1 q1 t1 => by
    obtain ⟨ds, r2, hh, hq⟩ := onP.ex hx
    have hz := Rq.c hq
    have hp := Rq.a hq
    obtain ⟨F2, k2, q2, p2⟩ := t1.holds k1 hh
    exact ⟨by rw [p2.length]; exact hz, fun p np => hP _ r2 _ _ _ hp (k2.alloc np) (q1.trans q2) (.newL k2 np p2)⟩⟩
def fIx : F2
  | .list ds, .int i => match atI ds i with
    | some d => some (.val d)
    | none => none
  | .tuple ds, .int i => match atI ds i with
    | some d => some (.val d)
    | none => none
  | .str x, .int i => if x.length ≤ sizeLine then match atI x.cps.toList i with
    | some c => some (.val (.str ⟨#[c]⟩))
    | none => none
    else none
  | _, _ => none
theorem RpA.at {K : Fg} {F : Hp} {vs : List V} {ds : List D} {i : Int} {d : D} (h : RpA K F vs ds) (q : atI ds i = some d) : ∃ v, atI vs i = some v ∧ Rp K F v d := by
  unfold atI at q ⊢
  rw [h.length]
  cases z : ixN ds.length i with
  | none => rw [z] at q; cases q
  | some j =>
    rw [z] at q
    obtain ⟨v, e1, e2⟩ := h.getD (show ds[j]? = some d from q)
    exact ⟨v, e1, e2⟩
abbrev MO' := Rho → (Option Int → Rho → Prop) → Prop
def TOp (K : Fg) (e : En) (m : MO') : TO := fun s H Q => ∃ F r, Ok K e F r s H ∧ ∃ P : Option Int → Rho → Prop, m r P ∧ ∀ o r' F' H', P o r' → Ok K e F' r' s H' → Sub F F' → Q o H'
def DO (X : Cx) (a : Option Expr) (m : MO') : Prop := ∀ e, PO X a (TOp X.K e m)
theorem PO.imp {X : Cx} {a : Option Expr} {t u : TO} (h : PO X a t) (i : ∀ s H Q, u s H Q → t s H Q) : PO X a u := ⟨fun pins s σ H Q I q => h.run pins s σ H Q I (i _ _ _ q)⟩
def oNone : MO' := fun r P => P none r
def oSome (m : ME) : MO' := fun r P => m r fun x r1 => onO (inOf x) fun i => P (some i) r1
theorem do_none : DO X none oNone := fun e => PO.imp po_none fun s H Q ⟨F, r, k, P, hm, hP⟩ => hP _ r F H hm k (Sub.refl F)
theorem do_some (ha : DE X a ma) : DO X (some a) (oSome ma) := fun e => PO.imp (po_some (ha e)) fun s H Q ⟨F, r, k, P, hm, hP⟩ => ⟨F, r, k, _, hm, fun x r1 v F1 H1 hx k1 q1 t1 => by
  obtain ⟨i, ei, hc⟩ := onO.ex hx
  have e1 := inOf_of ei
  subst e1
  cases t1 with | val a => cases a; exact ⟨i, rfl, hP _ r1 F1 H1 hc k1 q1⟩⟩
def cutD (xs : List D) (lo hi : Option Int) : List D := (xs.drop (HT.sIx xs.length 0 lo)).take (HT.sIx xs.length xs.length hi - HT.sIx xs.length 0 lo)
theorem RpA.cut {K : Fg} {F : Hp} {vs : List V} {ds : List D} (h : RpA K F vs ds) (lo hi : Option Int) : RpA K F (cutV vs lo hi) (cutD ds lo hi) := by
  unfold cutV cutD
  rw [h.length]
  exact (h.drop _).take _
def fSl (d : D) (lo hi : Option Int) : Option R := match d with
  | .list ds => some (.own (.L (cutD ds lo hi)))
  | .tuple ds => some (.val (.tuple (cutD ds lo hi)))
  | .str x => if x.length ≤ sizeLine then some (.val (.str (cutS x lo hi))) else none
  | _ => none
def kSl (d : D) (lo hi : Option Int) (K : R → Prop) : Prop := match d with
  | .list ds => K (.own (.L (cutD ds lo hi)))
  | .tuple ds => K (.val (.tuple (cutD ds lo hi)))
  | .str x => Rq (x.length ≤ sizeLine) (K (.val (.str (cutS x lo hi))))
  | _ => False
theorem kSl.ex {d : D} {lo hi : Option Int} {K : R → Prop} (h : kSl d lo hi K) : ∃ z, fSl d lo hi = some z ∧ K z := by
  cases d <;> first
    | exact h.elim
    | exact ⟨_, rfl, h⟩
    | exact ⟨_, rq_if h, Rq.a h⟩
def mSl (ma : ME) (ml mh : MO') : ME := fun r P => ma r fun x r1 => ml r1 fun l r2 => mh r2 fun h r3 => onO (look r3 x.tmp) fun d => kSl d l h fun z => P z r3
theorem cutD_whole {ds : List D} {lo hi : Option Int} (h : HT.sIx ds.length 0 lo = 0 ∧ HT.sIx ds.length ds.length hi = ds.length) : cutD ds lo hi = ds := by
  unfold cutD
  rw [h.1, h.2, List.drop_zero, Nat.sub_zero, List.take_length]
variable {lo hi : Option Expr} {ml mh : MO'} {p2 : Pos}
theorem de_slice (ha : DE X a ma) (hl : DO X lo ml) (hh : DO X hi mh) : DE X (.Subscript a (.Slice lo hi none p2) pos) (mSl ma ml mh) := fun e =>
  PE.imp (pe_slice (SlR.or sl_list (SlR.or sl_tupZ sl_str)) (ha.tmp e) (hl e) (hh e)) fun s H Q ⟨F, r, k, P, hm, hP⟩ => ⟨F, r, k, fun x r1 => ml r1 fun l r2 => mh r2 fun h r3 => onO (look r3 x) fun d => kSl d l h fun z => P z r3, hm, fun x r1 v F1 H1 hx k1 q1 t1 =>
    ⟨F1, r1, k1, _, hx, fun l r2 F2 H2 hx2 k2 q2 => ⟨F2, r2, k2, _, hx2, fun h r3 F3 H3 hx3 k3 q3 => by
      obtain ⟨d, e1, hx4⟩ := onO.ex hx3
      obtain ⟨z, ef, hp⟩ := kSl.ex hx4
      have lk := ((t1.mono q2).mono q3).look k3 e1
      have q := (q1.trans q2).trans q3
      unfold fSl at ef
      split at ef
      · cases ef
        obtain ⟨p, xs, g1, g2, g3⟩ := lk.lst k3.sub
        exact .inl ⟨p, xs, g1, .inl g2, fun p np => hP _ r3 _ F3 _ hp (k3.alloc np) q (.newL k3 np (g3.cut l h))⟩
      · cases ef
        obtain ⟨p, xs, g1, g2, g3, g4⟩ := lk.tup k3.sub
        refine .inr (.inl ⟨p, xs, g1, g2, fun hw => ?_, fun _ p o np nd => hP _ r3 _ _ _ hp (k3.lay np) (q.trans (Sub.new (k3.free np).1)) (.newT k3 np nd (g3.cut l h))⟩)
        rw [g3.length] at hw
        rw [cutD_whole hw] at hp
        subst g1
        exact hP _ r3 _ F3 H3 hp k3 q (.val g4)
      · split at ef
        · rename_i hz; cases ef
          exact .inr (.inr ⟨_, lk.str, hz, hP _ r3 _ F3 H3 hp k3 q (.val (.str _))⟩)
        · cases ef
      · cases ef⟩⟩⟩
abbrev FA := List D → Option R
def CallD (X : Cx) (g : Value) (f : FA) : Prop := ∃ rr : List V → Hp → VK → Prop, CallR X g rr ∧ ∀ (e : En) (F : Hp) (r : Rho) (s : L2.St) (H : Hp) (vs : List V) (ds : List D) (z : R) (Q : VK),
  Ok X.K e F r s H → LkA X.K F H vs ds → f ds = some z → (∀ v F' H', Ok X.K e F' r s H' → Sub F F' → RR X.K e F' r s H' z v → Q v H') → rr vs H Q
theorem CallR.or {g : Value} {a b : List V → Hp → VK → Prop} (h : CallR X g a) (h' : CallR X g b) : CallR X g (fun x H Q => a x H Q ∨ b x H Q) := fun pins s σ H x v Q I rx q =>
  q.elim (h pins s σ H x v Q I rx) (h' pins s σ H x v Q I rx)
/-- a built-in and what it does, told so that it runs -/
structure CaK where
  f : FA
  k : List D → (R → Prop) → Prop
  ok : ∀ ds K, k ds K → ∃ z, f ds = some z ∧ K z
def mCall (o : CaK) (ms : MA) : ME := fun r P => ms r fun xs r1 => onO (looks r1 xs) fun ds => o.k ds fun z => P z r1
theorem call_read {e : En} {o : CaK} {rr : List V → Hp → VK → Prop} (hq : ∀ (e : En) (F : Hp) (r : Rho) (s : L2.St) (H : Hp) (vs : List V) (ds : List D) (z : R) (Q : VK),
    Ok X.K e F r s H → LkA X.K F H vs ds → o.f ds = some z → (∀ v F' H', Ok X.K e F' r s H' → Sub F F' → RR X.K e F' r s H' z v → Q v H') → rr vs H Q)
    {s : L2.St} {H : Hp} {Q : VK} (h : T X.K e (mCall o ms) s H Q) : tCB rr (TAl X.K e ms) s H Q := by
  obtain ⟨F, r, k, P, hm, hP⟩ := h
  refine ⟨F, r, k, _, hm, fun xs r1 vs F1 H1 hx k1 q1 t1 => ?_⟩
  obtain ⟨ds, e1, hx2⟩ := onO.ex hx
  obtain ⟨z, ef, hp⟩ := o.ok _ _ hx2
  exact hq e F1 r1 s H1 vs ds z Q k1 (t1.looks k1 e1) ef fun v F' H' k' q' hr => hP z r1 v F' H' hp k' (q1.trans q') hr
variable {x : Str} {p : Pos} {id : String}
theorem de_callB {o : CaK} (hc : CallD X (.builtin id) o.f) (hg : Gl X x) (hm : X.mg x = none) (hv : bootBuiltins x = some (.builtin id)) (ha : DA X (a :: es) ms) (hn : x ≠ "__name__" := by decide) (hdb : (x == ("__debug__" : Str)) = false := by decide)
    (he : starEach (a :: es) X.env = (false, eval a X.env) :: starEach es X.env := by rfl) (hpl : (backTo pos (starEach es X.env)).any (·.1) = false := by rfl) : DE X (.Call (.Name x p) (a :: es) [] pos) (mCall o ms) := fun e => by
  obtain ⟨rr, hr, hq⟩ := hc
  exact PE.imp (pe_callB hr hg hm hv (ha e) hn hdb he hpl) fun s H Q h => call_read hq h
theorem de_callTy {o : CaK} {T : String} (hc : CallD X (.type T) o.f) (hg : Gl X x) (hm : X.mg x = none) (hv : bootBuiltins x = some (.type T)) (ha : DA X (a :: es) ms) (hn : x ≠ "__name__" := by decide) (hdb : (x == ("__debug__" : Str)) = false := by decide)
    (he : starEach (a :: es) X.env = (false, eval a X.env) :: starEach es X.env := by rfl) (hpl : (backTo pos (starEach es X.env)).any (·.1) = false := by rfl) : DE X (.Call (.Name x p) (a :: es) [] pos) (mCall o ms) := fun e => by
  obtain ⟨rr, hr, hq⟩ := hc
  exact PE.imp (pe_callTy hr hg hm hv (ha e) hn hdb he hpl) fun s H Q h => call_read hq h
end
end DL
namespace DL
open PySem L2 PyProof.Rows
section
variable {X : Cx}
theorem LkA.one {K : Fg} {F H : Hp} {vs : List V} {d : D} (h : LkA K F H vs [d]) : ∃ v, vs = [v] ∧ Lk K F H v d := by
  cases h with | cons a b => cases b; exact ⟨_, rfl, a⟩
theorem LkA.two {K : Fg} {F H : Hp} {vs : List V} {d d' : D} (h : LkA K F H vs [d, d']) : ∃ v v', vs = [v, v'] ∧ Lk K F H v d ∧ Lk K F H v' d' := by
  cases h with | cons a b => obtain ⟨v', rfl, q⟩ := b.one; exact ⟨_, _, rfl, a, q⟩
def fLen : FA
  | [.str x] => if x.length ≤ sizeLine then some (.val (.int x.length)) else none
  | [.list ds] => some (.val (.int ds.length))
  | [.tuple ds] => some (.val (.int ds.length))
  | _ => none
theorem calld_len : CallD X (.builtin "len") fLen := by
  refine ⟨_, call_len, fun e F r s H vs ds z Q k l ef w => ?_⟩
  unfold fLen at ef
  split at ef
  · split at ef
    · rename_i hz; cases ef
      obtain ⟨v, rfl, lk⟩ := l.one
      rw [lk.str]
      exact ⟨_, _, rfl, ⟨hz, rfl⟩, w _ F H k (Sub.refl F) (.val (.int _))⟩
    · cases ef
  · cases ef
    obtain ⟨v, rfl, lk⟩ := l.one
    obtain ⟨p, xs, rfl, g2, g3⟩ := lk.lst k.sub
    exact ⟨_, _, rfl, .inl ⟨xs, .inl g2, g3.length.symm⟩, w _ F H k (Sub.refl F) (.val (.int _))⟩
  · cases ef
    obtain ⟨v, rfl, lk⟩ := l.one
    obtain ⟨p, xs, rfl, g2, g3, _⟩ := lk.tup k.sub
    exact ⟨_, _, rfl, .inr ⟨xs, g2, g3.length.symm⟩, w _ F H k (Sub.refl F) (.val (.int _))⟩
  · cases ef
def fTuple : FA
  | [.list ds] => some (.val (.tuple ds))
  | [.tuple ds] => some (.val (.tuple ds))
  | _ => none
theorem calld_tuple : CallD X (.type "tuple") fTuple := by
  refine ⟨_, call_tupZ, fun e F r s H vs ds z Q k l ef w => ?_⟩
  unfold fTuple at ef
  split at ef
  · cases ef
    obtain ⟨v, rfl, lk⟩ := l.one
    obtain ⟨p, xs, rfl, g2, g3⟩ := lk.lst k.sub
    exact .inl ⟨p, xs, rfl, .inl g2, fun q o nq nd => w _ _ _ (k.lay nq) (Sub.new (k.free nq).1) (.newT k nq nd g3)⟩
  · cases ef
    obtain ⟨v, rfl, lk⟩ := l.one
    obtain ⟨p, xs, rfl, g2, g3, g4⟩ := lk.tup k.sub
    exact .inr ⟨p, xs, rfl, g2, w _ F H k (Sub.refl F) (.val g4)⟩
  · cases ef
def blsOf : List D → Option (List Bool)
  | [] => some []
  | .bool b :: ds => (blsOf ds).map (b :: ·)
  | _ => none
theorem RpA.bls {K : Fg} {F : Hp} : ∀ {ds : List D} {vs : List V} {bs : List Bool}, RpA K F vs ds → blsOf ds = some bs → vs = bs.map V.bl
  | [], _, _, h, q => by cases h; cases q; rfl
  | .bool b :: ds, _, _, h, q => by
    cases h with | cons a r =>
    cases a
    simp only [blsOf, Option.map_eq_some_iff] at q
    obtain ⟨bs', q1, q2⟩ := q
    subst q2
    rw [RpA.bls r q1, List.map_cons]
  | .none :: _, _, _, _, q => by cases q
  | .int _ :: _, _, _, _, q => by cases q
  | .str _ :: _, _, _, _, q => by cases q
  | .list _ :: _, _, _, _, q => by cases q
  | .tuple _ :: _, _, _, _, q => by cases q
  | .dict _ :: _, _, _, _, q => by cases q
def intsOf : List D → Option (List Int)
  | [] => some []
  | .int b :: ds => (intsOf ds).map (b :: ·)
  | _ => none
theorem RpA.ints {K : Fg} {F : Hp} : ∀ {ds : List D} {vs : List V} {bs : List Int}, RpA K F vs ds → intsOf ds = some bs → vs = bs.map V.int
  | [], _, _, h, q => by cases h; cases q; rfl
  | .int b :: ds, _, _, h, q => by
    cases h with | cons a r =>
    cases a
    simp only [intsOf, Option.map_eq_some_iff] at q
    obtain ⟨bs', q1, q2⟩ := q
    subst q2
    rw [RpA.ints r q1, List.map_cons]
  | .none :: _, _, _, _, q => by cases q
  | .bool _ :: _, _, _, _, q => by cases q
  | .str _ :: _, _, _, _, q => by cases q
  | .list _ :: _, _, _, _, q => by cases q
  | .tuple _ :: _, _, _, _, q => by cases q
  | .dict _ :: _, _, _, _, q => by cases q
def strsOf : List D → Option (List Str)
  | [] => some []
  | .str b :: ds => (strsOf ds).map (b :: ·)
  | _ => none
theorem RpA.strs {K : Fg} {F : Hp} : ∀ {ds : List D} {vs : List V} {bs : List Str}, RpA K F vs ds → strsOf ds = some bs → vs = bs.map V.str
  | [], _, _, h, q => by cases h; cases q; rfl
  | .str b :: ds, _, _, h, q => by
    cases h with | cons a r =>
    cases a
    simp only [strsOf, Option.map_eq_some_iff] at q
    obtain ⟨bs', q1, q2⟩ := q
    subst q2
    rw [RpA.strs r q1, List.map_cons]
  | .none :: _, _, _, _, q => by cases q
  | .bool _ :: _, _, _, _, q => by cases q
  | .int _ :: _, _, _, _, q => by cases q
  | .list _ :: _, _, _, _, q => by cases q
  | .tuple _ :: _, _, _, _, q => by cases q
  | .dict _ :: _, _, _, _, q => by cases q
def fAll : FA
  | [.list ds] => (blsOf ds).map fun bs => .val (.bool (bs.all id))
  | _ => none
theorem calld_all (hc : X.calm = true) : CallD X (.builtin "all") fAll := by
  refine ⟨_, cr_all hc, fun e F r s H vs ds z Q k l ef w => ?_⟩
  unfold fAll at ef
  split at ef
  · rw [Option.map_eq_some_iff] at ef
    obtain ⟨bs, e1, rfl⟩ := ef
    obtain ⟨v, rfl, lk⟩ := l.one
    obtain ⟨p, xs, rfl, g2, g3⟩ := lk.lst k.sub
    have := g3.bls e1
    subst this
    exact ⟨p, bs, rfl, .inl g2, w _ F H k (Sub.refl F) (.val (.bl _))⟩
  · cases ef
def fAbs : FA
  | [.int i] => some (.val (.int (if i < 0 then -i else i)))
  | _ => none
theorem calld_abs : CallD X (.builtin "abs") fAbs := by
  refine ⟨_, call_abs, fun e F r s H vs ds z Q k l ef w => ?_⟩
  unfold fAbs at ef
  split at ef
  · cases ef
    obtain ⟨v, rfl, lk⟩ := l.one
    rw [lk.int]
    exact ⟨_, rfl, w _ F H k (Sub.refl F) (.val (.int _))⟩
  · cases ef
def fInt : FA
  | [.int i] => some (.val (.int i))
  | [.bool b] => some (.val (.int (if b then 1 else 0)))
  | _ => none
theorem calld_int : CallD X (.type "int") fInt := by
  refine ⟨_, call_int1, fun e F r s H vs ds z Q k l ef w => ?_⟩
  unfold fInt at ef
  split at ef
  · cases ef
    obtain ⟨v, rfl, lk⟩ := l.one
    rw [lk.int]
    exact .inl ⟨_, rfl, w _ F H k (Sub.refl F) (.val (.int _))⟩
  · cases ef
    obtain ⟨v, rfl, lk⟩ := l.one
    rw [lk.bl]
    exact .inr ⟨_, rfl, w _ F H k (Sub.refl F) (.val (.int _))⟩
  · cases ef
end
def kLen : List D → (R → Prop) → Prop
  | [.str x], K => Rq (x.length ≤ sizeLine) (K (.val (.int x.length)))
  | [.list ds], K => K (.val (.int ds.length))
  | [.tuple ds], K => K (.val (.int ds.length))
  | _, _ => False
def cLen : CaK := ⟨fLen, kLen, fun ds K h => by
  unfold kLen at h
  split at h
  · exact ⟨_, rq_if h, Rq.a h⟩
  · exact ⟨_, rfl, h⟩
  · exact ⟨_, rfl, h⟩
  · exact h.elim⟩
def kTuple : List D → (R → Prop) → Prop
  | [.list ds], K => K (.val (.tuple ds))
  | [.tuple ds], K => K (.val (.tuple ds))
  | _, _ => False
def cTuple : CaK := ⟨fTuple, kTuple, fun ds K h => by
  unfold kTuple at h
  split at h
  · exact ⟨_, rfl, h⟩
  · exact ⟨_, rfl, h⟩
  · exact h.elim⟩
def kAll : List D → (R → Prop) → Prop
  | [.list ds], K => onO (blsOf ds) fun bs => K (.val (.bool (bs.all id)))
  | _, _ => False
def cAll : CaK := ⟨fAll, kAll, fun ds K h => by
  unfold kAll at h
  split at h
  · obtain ⟨bs, e, q⟩ := onO.ex h
    exact ⟨_, by simp only [fAll, e, Option.map_some], q⟩
  · exact h.elim⟩
def kAbs : List D → (R → Prop) → Prop
  | [.int i], K => K (.val (.int (if i < 0 then -i else i)))
  | _, _ => False
def cAbs : CaK := ⟨fAbs, kAbs, fun ds K h => by
  unfold kAbs at h
  split at h
  · exact ⟨_, rfl, h⟩
  · exact h.elim⟩
def kInt : List D → (R → Prop) → Prop
  | [.int i], K => K (.val (.int i))
  | [.bool b], K => K (.val (.int (if b then 1 else 0)))
  | _, _ => False
def cInt : CaK := ⟨fInt, kInt, fun ds K h => by
  unfold kInt at h
  split at h
  · exact ⟨_, rfl, h⟩
  · exact ⟨_, rfl, h⟩
  · exact h.elim⟩
end DL
namespace DL
open PySem L2 PyProof.Rows
section
variable {X : Cx} {a b : Expr} {ma mb : ME} {pos : Pos}
def kindD : D → String
  | .none => "NoneType"
  | .bool _ => "bool"
  | .int _ => "int"
  | .str _ => "str"
  | .list _ => "list"
  | .tuple _ => "tuple"
  | .dict _ => "dict"
def isK (T k : String) : Bool := k == T || (k == "bool" && T == "int")
def isI (T : String) (d : D) : Bool := isK T (kindD d)
def kinds : List String := ["NoneType", "bool", "int", "str", "list", "tuple", "dict"]
theorem kind_in (d : D) : kindD d ∈ kinds := by cases d <;> simp [kindD, kinds]
theorem Rp.ty {K : Fg} {H : Hp} {v : V} {d : D} (h : Rp K H v d) : TyX K H v (.type (kindD d)) := by
  cases h with
  | non => exact .base .non
  | bl => exact .base (.bl _)
  | int => exact .base (.int _)
  | str => exact .base (.str _)
  | lst h _ =>
    rcases h with h | ⟨o, h⟩
    · exact .base (.lst h)
    · exact .base (.frz h)
  | tup h _ =>
    have h := h.sqT
    rcases h with (h | ⟨o, h⟩) | ⟨o, its, n, h1, h2, _⟩
    · exact .base (.tup h)
    · exact .fTuple h
    · exact .kTuple h1 h2
  | dct h _ _ _ =>
    rcases h with ⟨k, h, _⟩ | ⟨k, h, _⟩
    · exact .base (.dK h)
    · exact .base (.dT h)
theorem kit_ok : ∀ T ∈ kinds, ∀ k ∈ kinds, kitB k T = some (isK T k) := by decide +kernel
theorem kit_str (d : D) : kitB (kindD d) "str" = some (isI "str" d) := kit_ok _ (by simp [kinds]) _ (kind_in d)
theorem kit_tuple (d : D) : kitB (kindD d) "tuple" = some (isI "tuple" d) := kit_ok _ (by simp [kinds]) _ (kind_in d)
def mIsI (T : String) (ma : ME) : ME := fun r P => ma r fun x r1 => onO (look r1 x.tmp) fun d => P (.val (.bool (isI T d))) r1
theorem de_isinst {T : String} {p q : Pos} (hk : ∀ d, kitB (kindD d) T = some (isI T d)) (hg : Gl X "isinstance") (hm : X.mg "isinstance" = none) (hv : bootBuiltins "isinstance" = some (.builtin "isinstance")) (hgT : Gl X (Str.ofString T)) (hmT : X.mg (Str.ofString T) = none) (hvT : bootBuiltins (Str.ofString T) = some (.type T))
    (ha : DE X a ma) (hnT : (Str.ofString T) ≠ "__name__" := by decide) (hdT : ((Str.ofString T) == ("__debug__" : Str)) = false := by decide)
    (he : starEach (a :: [.Name (Str.ofString T) q]) X.env = (false, eval a X.env) :: starEach [.Name (Str.ofString T) q] X.env := by rfl) : DE X (.Call (.Name "isinstance" p) [a, .Name (Str.ofString T) q] [] pos) (mIsI T ma) := fun e =>
  PE.imp (pe_callB call_isi hg hm hv (pa_cons (ha.tmp e) (pa_cons (pe_bltn (v := .ty T) hgT hmT hvT rfl hnT hdT) pa_nil) he) (he := he)) fun s H Q ⟨F, r, k, P, hm, hP⟩ => ⟨F, r, k, fun x r1 => onO (look r1 x) fun d => P (.val (.bool (isI T d))) r1, hm, fun x r1 v F1 H1 hx k1 q1 t1 => by
    obtain ⟨d, e1, hp⟩ := onO.ex hx
    exact ⟨v, .ty T, .type (kindD d), .type T, isI T d, rfl, .ty T, ((t1.look k1 e1).all k1.sub).ty, kit_ty (hk d), hP _ r1 _ F1 H1 hp k1 q1 (.val (.bl _))⟩⟩
mutual
def noList : D → Bool
  | .list _ => false
  | .tuple ds => noListA ds
  | .dict kvs => noListK kvs
  | .none | .bool _ | .int _ | .str _ => true
def noListA : List D → Bool
  | [] => true
  | d :: ds => noList d && noListA ds
def noListK : List (D × D) → Bool
  | [] => true
  | (a, b) :: r => noList a && noList b && noListK r
end
theorem noListK_vals : ∀ {kvs : List (D × D)}, noListK kvs = true → noListA (kvs.map (·.2)) = true
  | [], _ => rfl
  | (a, b) :: r, h => by
    simp only [noListK, Bool.and_eq_true] at h
    simp only [List.map_cons, noListA, h.1.2, noListK_vals h.2, Bool.and_self]
/-- what repr is told of here -/
def reprOk (d : D) : Bool := d.showable && decide (d.shown.length ≤ sizeLine) && decide (d.depth ≤ 64) && (!d.hasDict || noList d)
def fRepr : FA
  | [d] => if reprOk d then some (.val (.str d.shown)) else none
  | _ => none
theorem reads_key {h : Heap} {k : Key} {u : Value} (q : keyIs k u = true) : Reads h u (kD k) [] := by
  rcases keyIs_shape q with ⟨i, t, rfl, rfl⟩ | ⟨x, t, rfl, rfl⟩
  · exact .int i t
  · exact .str x t
end
section
variable {X : Cx} {pins : List (Addr × Obj)} {σ : L2.St} {H : Hp} {s : Shared}
theorem reads_keys {P : Program} {w : World} {h : Heap} {es : List DictEntry} {kvs : List (Key × Value)} (p : Pairs (mixKind P w) es kvs) : ReadsAll h (es.map (·.key)) (kvs.map fun p => kD p.1) [] ∧ es.map (·.val) = kvs.map (·.2) := by
  induction p with
  | nil => exact ⟨.nil, rfl⟩
  | cons a b _ ih =>
    refine ⟨.cons (as := []) (reads_key a) ih.1, ?_⟩
    rw [List.map_cons, List.map_cons, b, ih.2]
theorem kv_split {kvs : List (Key × V)} {vs : List (Key × Value)} (h : KV kvs vs) : kvs.map (fun p => kD p.1) = vs.map (fun p => kD p.1) ∧ Vals (kvs.map (·.2)) (vs.map (·.2)) := by
  unfold KV at h
  induction h with
  | nil => exact ⟨rfl, .nil⟩
  | cons a _ ih =>
    refine ⟨?_, .cons a.2 ih.2⟩
    rw [List.map_cons, List.map_cons, ih.1, a.1]
theorem reads_tkey (I : Inv X pins σ H s) : ∀ (k : List Key) (us : List Value), Vals (k.map kV) us → ReadsAll s.heap us (k.map kD) []
  | [], _, r => by cases r; exact .nil
  | .inl i :: k, _, r => by
    cases r with | cons a b =>
    obtain ⟨t, rfl⟩ := a
    exact .cons (as := []) (.int i t) (reads_tkey I k _ b)
  | .inr x :: k, _, r => by
    cases r with | cons a b =>
    obtain ⟨t, rfl⟩ := a
    exact .cons (as := []) (.str x t) (reads_tkey I k _ b)
theorem tkv_split (I : Inv X pins σ H s) {kvs : List (List Key × V)} {xs : List (List Key × Addr × Value)} (h : Paired (fun (p : List Key × V) (q : List Key × Addr × Value) => p.1 = q.1 ∧ H q.2.1 = some (.tup (p.1.map kV)) ∧ RelV p.2 q.2.2) kvs xs) :
    ReadsAll s.heap (xs.map fun x => Value.ref x.2.1) (kvs.map fun p => ktD p.1) [] ∧ Vals (kvs.map (·.2)) (xs.map fun x => x.2.2) := by
  induction h with
  | nil => exact ⟨.nil, .nil⟩
  | cons a _ ih =>
    obtain ⟨its, rv, ⟨o, e1, e2, n, e3⟩, _⟩ := I.tuple (SqT.of a.2.1)
    exact ⟨.cons (as := []) (.tuple e1 e2 e3 (by simpa using reads_tkey I _ _ rv)) ih.1, .cons a.2.2 ih.2⟩
mutual
theorem Rp.reads (I : Inv X pins σ H s) : ∀ {v : V} {d : D}, Rp X.K H v d → ∀ {u : Value}, RelV v u → ∃ as, Reads s.heap u d as ∧ (noList d = true → sysModules ∉ as)
  | _, _, .non, _, r => by cases r; exact ⟨[], .none, fun _ => by simp⟩
  | _, _, .bl b, _, r => by cases r; exact ⟨[], .bool b, fun _ => by simp⟩
  | _, _, .int i, _, r => by obtain ⟨t, rfl⟩ := r; exact ⟨[], .int i t, fun _ => by simp⟩
  | _, _, .str x, _, r => by obtain ⟨t, rfl⟩ := r; exact ⟨[], .str x t, fun _ => by simp⟩
  | _, _, .lst h q, _, r => by
    cases r
    obtain ⟨_, its, n, rv, e⟩ := rd_list h I.hok
    obtain ⟨as, ra, _⟩ := RpA.reads I q rv
    exact ⟨_, .list e rfl rfl (by simpa using ra), fun z => by simp [noList] at z⟩
  | _, _, .tup h q, _, r => by
    cases r
    obtain ⟨its, rv, ⟨o, e1, e2, n, e3⟩, _⟩ := I.tuple h.sqT
    obtain ⟨as, ra, ns⟩ := RpA.reads I q rv
    exact ⟨_, .tuple e1 e2 e3 (by simpa using ra), fun z => ns (by simpa [noList] using z)⟩
  | _, _, .dct h q e1 e2, _, r => by
    have ih := fun us (r : Vals _ us) => RpA.reads I q r
    cases r
    subst e1; subst e2
    rcases h with ⟨kvs, hh, ek, ev⟩ | ⟨kvs, hh, ek, ev⟩
    · obtain ⟨_, ns, vs, kv, o, es, ep, g1, g2, g3, _, g5, _⟩ := I.hok _ _ hh
      obtain ⟨w1, w2⟩ := kv_split kv
      obtain ⟨k1, k2⟩ := reads_keys (h := s.heap) g5
      obtain ⟨bs, rb, nb⟩ := ih _ (by rw [ev]; exact w2)
      refine ⟨_, .dict (as := []) (bs := bs) g1 g2.1 g3 ?_ ?_, fun z => ?_⟩
      · rw [ek, w1]; exact k1
      · rw [k2]; exact rb
      · rw [List.singleton_append, List.mem_cons]
        rintro (y | y)
        · rw [y] at ns; simp at ns
        · exact nb (noListK_vals (by simpa [noList] using z)) y
    · obtain ⟨_, ns, xs, pr, o, es, ep, g1, g2, g3, g4, _⟩ := I.hok _ _ hh
      obtain ⟨w1, w2⟩ := tkv_split I pr
      obtain ⟨bs, rb, nb⟩ := ih _ (by rw [ev]; exact w2)
      refine ⟨_, .dict (as := []) (bs := bs) g1 g2.1 g3 ?_ ?_, fun z => ?_⟩
      · rw [ek, g4, List.map_map]; exact w1
      · rw [g4, List.map_map]; exact rb
      · rw [List.singleton_append, List.mem_cons]
        rintro (y | y)
        · rw [y] at ns; simp at ns
        · exact nb (noListK_vals (by simpa [noList] using z)) y
theorem RpA.reads (I : Inv X pins σ H s) : ∀ {vs : List V} {ds : List D}, RpA X.K H vs ds → ∀ {us : List Value}, Vals vs us → ∃ as, ReadsAll s.heap us ds as ∧ (noListA ds = true → sysModules ∉ as)
  | _, _, .nil, _, r => by cases r; exact ⟨[], .nil, fun _ => by simp⟩
  | _, _, .cons a b, _, r => by
    cases r with | cons r1 r2 =>
    obtain ⟨as, h1, n1⟩ := Rp.reads I a r1
    obtain ⟨bs, h2, n2⟩ := RpA.reads I b r2
    refine ⟨_, .cons h1 h2, fun z => ?_⟩
    simp only [noListA, Bool.and_eq_true] at z
    rw [List.mem_append]
    exact fun y => y.elim (n1 z.1) (n2 z.2)
end
end
section
variable {X : Cx}
theorem call_repr (hg : X.A.guards = some []) (hu : X.A.units + 66 < cLine) : CallR X (.builtin "repr") (fun xs H Q => ∃ v d, xs = [v] ∧ Rp X.K H v d ∧ reprOk d = true ∧ Q (.str d.shown) H) := by
  rintro pins s σ H _ us Q I r ⟨v, d, rfl, h, ok, q⟩
  obtain ⟨u, rfl, ru⟩ := vals1 r
  simp only [reprOk, Bool.and_eq_true, decide_eq_true_eq] at ok
  obtain ⟨⟨⟨o1, o2⟩, o3⟩, o4⟩ := ok
  obtain ⟨as, hr, ns⟩ := h.reads I ru
  have fin : ∀ t h' k, (∀ b o, s.heap.get? b = some o → h'.get? b = some o) → EP X pins σ Q (.str d.shown t) { s with heap := h', toks := k } := fun t h' k kk => ⟨.str _, H, I.kept (t' := k) kk, ⟨_, rfl⟩, q⟩
  have fin0 : ∀ t k, EP X pins σ Q (.str d.shown t) { s with toks := k } := fun t k => fin t s.heap k fun _ _ e => e
  have ref : ∀ a, u = .ref a → wpAny (model X.prog X.w) X.A (call (.builtin "repr") [u]) (EP X pins σ Q) X.xe s := by
    rintro a rfl
    refine repr_of_reads' hr o1 (fun hd => ?_) hg (by omega) (fun _ _ e => e) (fun h' t tk k => fin t h' tk k) o2
    rw [hd] at o4
    exact ns (by simpa using o4)
  cases hr with
  | none => exact PySem.P.repr_of_none (fin0 _ _)
  | bool b => exact PySem.P.repr_of_bool (by first | exact fin0 _ _)
  | int i t => exact PySem.P.repr_of_int (by simpa [PyData.showable] using o1) (fin0 _ _)
  | str x t => exact PySem.P.repr_of_str (fin0 _ _) o2
  | list _ _ _ _ => exact ref _ rfl
  | tuple _ _ _ _ => exact ref _ rfl
  | dict _ _ _ _ _ => exact ref _ rfl
theorem calld_repr (hg : X.A.guards = some []) (hu : X.A.units + 66 < cLine) : CallD X (.builtin "repr") fRepr := by
  refine ⟨_, call_repr hg hu, fun e F r s H vs ds z Q k l ef w => ?_⟩
  unfold fRepr at ef
  split at ef
  · split at ef
    · rename_i ok; cases ef
      obtain ⟨v, rfl, lk⟩ := l.one
      exact ⟨v, _, rfl, lk.all k.sub, ok, w _ F H k (Sub.refl F) (.val (.str _))⟩
    · cases ef
  · cases ef
end
def kRepr : List D → (R → Prop) → Prop
  | [d], K => rqB (reprOk d) (K (.val (.str d.shown)))
  | _, _ => False
def cRepr : CaK := ⟨fRepr, kRepr, fun ds K h => by
  unfold kRepr at h
  split at h
  · obtain ⟨h1, h2⟩ := rqB.ex h
    exact ⟨_, if_pos h1, h2⟩
  · exact h.elim⟩
end DL
namespace DL
open PySem L2 PyProof.Rows
structure Out where
  nx : Rho → Prop
  rt : R → Rho → Prop
  bk : Rho → Prop := fun _ => False
  ct : Rho → Prop := fun _ => False
abbrev MS := Rho → Out → Prop
/-- what the ends of a statement by data say of those by values -/
structure Hits (K : Fg) (e : En) (F : Hp) (O : Out) (D : Ends) : Prop where
  nx : ∀ r' s' F' H', O.nx r' → Ok K e F' r' s' H' → Sub F F' → D.nx s' H'
  rt : ∀ x r' v s' F' H', O.rt x r' → Ok K e F' r' s' H' → Sub F F' → RR K e F' r' s' H' x v → D.rt v H'
  bk : ∀ r' s' F' H', O.bk r' → Ok K e F' r' s' H' → Sub F F' → D.bk s' H'
  ct : ∀ r' s' F' H', O.ct r' → Ok K e F' r' s' H' → Sub F F' → D.ct s' H'
theorem Hits.mono {K : Fg} {e : En} {F G : Hp} {O : Out} {D : Ends} (h : Hits K e F O D) (q : Sub F G) : Hits K e G O D :=
  ⟨fun r' s' F' H' a b c => h.nx r' s' F' H' a b (q.trans c), fun x r' v s' F' H' a b c d => h.rt x r' v s' F' H' a b (q.trans c) d, fun r' s' F' H' a b c => h.bk r' s' F' H' a b (q.trans c), fun r' s' F' H' a b c => h.ct r' s' F' H' a b (q.trans c)⟩
def TSt (K : Fg) (e : En) (m : MS) : TS := fun D s H => ∃ F r, Ok K e F r s H ∧ ∃ O : Out, m r O ∧ Hits K e F O D
def DS (X : Cx) (a : Stmt) (m : MS) : Prop := ∀ e, PS X a (TSt X.K e m)
def DSs (X : Cx) (a : List Stmt) (m : MS) : Prop := ∀ e, PSs X a (TSt X.K e m)
theorem PS.imp {X : Cx} {a : Stmt} {t u : TS} (h : PS X a t) (i : ∀ D s H, u D s H → t D s H) : PS X a u := ⟨fun pins s σ H D I q => h.run pins s σ H D I (i _ _ _ q)⟩
theorem PSs.imp {X : Cx} {a : List Stmt} {t u : TS} (h : PSs X a t) (i : ∀ D s H, u D s H → t D s H) : PSs X a u := ⟨fun pins s σ H D I q => h.run pins s σ H D I (i _ _ _ q)⟩
def sNext : MS := fun r O => O.nx r
def sSeq (m n : MS) : MS := fun r O => m r { O with nx := fun r' => n r' O }
section
variable {X : Cx} {st : Stmt} {rest : List Stmt} {m n : MS} {a b c : Expr} {ma mb : ME} {ta : MT} {pos : Pos}
theorem dss_nil : DSs X [] sNext := fun e => PSs.imp pss_nil fun D s H ⟨F, r, k, O, hm, h⟩ => h.nx r s F H hm k (Sub.refl F)
theorem dss_one (h : DS X st m) : DSs X [st] m := fun e => pss_one (h e)
theorem dss_cons (h1 : DS X st m) (h2 : DSs X rest n) : DSs X (st :: rest) (sSeq m n) := fun e =>
  PSs.imp (pss_cons (h1 e) (h2 e)) fun D s H ⟨F, r, k, O, hm, h⟩ => ⟨F, r, k, _, hm, ⟨fun r' s' F' H' hn k' q => ⟨F', r', k', O, hn, h.mono q⟩, h.rt, h.bk, h.ct⟩⟩
def sExpr (m : ME) : MS := fun r O => m r fun _ r' => O.nx r'
theorem ds_expr (ha : DE X a ma) (hs : swapsWith a none pos.line X.env = pure false := by rfl) : DS X (.Expr a pos) (sExpr ma) := fun e =>
  PS.imp (ps_expr (ha e) hs) fun D s H ⟨F, r, k, O, hm, h⟩ => ⟨F, r, k, _, hm, fun x r' v F' H' hp k' q t => h.nx r' s F' H' hp k' q⟩
def sRet (m : ME) : MS := fun r O => m r fun x r' => O.rt x r'
theorem ds_ret (ha : DE X a ma) : DS X (.Return (some a) pos) (sRet ma) := fun e =>
  PS.imp (ps_ret (ha e)) fun D s H ⟨F, r, k, O, hm, h⟩ => ⟨F, r, k, _, hm, fun x r' v F' H' hp k' q t => h.rt x r' v s F' H' hp k' q t⟩
def sIf (t : MT) (m n : MS) : MS := fun r O => t r fun b r1 => brK b (m r1 O) (n r1 O)
theorem ds_if {sa sb : List Stmt} (hc : DT X c ta) (ha : DSs X sa m) (hb : DSs X sb n) : DS X (.If c sa sb pos) (sIf ta m n) := fun e =>
  PS.imp (ps_if (hc e) (ha e) (hb e)) fun D s H ⟨F, r, k, O, hm, h⟩ => ⟨F, r, k, _, hm, fun b r1 F1 H1 hp k1 q => by
    cases b with
    | true => rw [if_pos rfl]; exact ⟨F1, r1, k1, O, hp, h.mono q⟩
    | false => rw [if_neg Bool.false_ne_true]; exact ⟨F1, r1, k1, O, hp, h.mono q⟩⟩
end
section
variable {K : Fg} {e : En} {F : Hp} {r : Rho} {s : L2.St} {H : Hp}
/-- a datum is stored at a name -/
theorem Ok.store {i : Nat} {v : V} {d : D} (k : Ok K e F r s H) (h : Rp K F v d) : Ok K e F (r.set i (some (.val d))) (s.set i (some v)) H where
  len := by rw [List.length_set, List.length_set]; exact k.len
  sub := k.sub
  f0 := k.f0
  prot := k.prot
  new := k.new
  dom := k.dom
  slot := fun j d' z => by
    by_cases q : i = j
    · subst q
      have hl : i < r.length := by simpa using (List.getElem?_eq_some_iff.mp z).1
      rw [List.getElem?_set_self hl] at z
      cases z
      exact ⟨v, by rw [List.getElem?_set_self (by rw [← k.len]; exact hl)], h⟩
    · rw [List.getElem?_set_ne q] at z ⊢
      exact k.slot j d' z
  box := fun j b m z => by
    rcases get_set z with ⟨_, e2⟩ | ⟨q, e2⟩
    · cases e2
    · rw [List.getElem?_set_ne q]
      exact k.box j b m e2
  ob := fun j ns z => by
    rcases get_set z with ⟨_, e2⟩ | ⟨q, e2⟩
    · cases e2
    · rw [List.getElem?_set_ne q]
      exact k.ob j ns e2
  sep := fun j1 j2 p b m b' m' z1 z2 w1 w2 => by
    rcases get_set z1 with ⟨_, e2⟩ | ⟨q1, e2⟩
    · cases e2
    · rcases get_set z2 with ⟨_, e4⟩ | ⟨q2, e4⟩
      · cases e4
      · rw [List.getElem?_set_ne q1] at w1
        rw [List.getElem?_set_ne q2] at w2
        exact k.sep j1 j2 p b m b' m' e2 e4 w1 w2
  adr := fun j n a z => by
    rcases get_set z with ⟨_, e2⟩ | ⟨q, e2⟩
    · cases e2
    · rw [List.getElem?_set_ne q]
      exact k.adr j n a e2
  gh := fun j G z => by
    rcases get_set z with ⟨_, e2⟩ | ⟨q, e2⟩
    · cases e2
    · obtain ⟨g1, g2, g3⟩ := k.gh j G e2
      refine ⟨g1, fun j2 b m p z2 w => ?_, fun j2 G' z2 => ?_⟩
      · rcases get_set z2 with ⟨_, e4⟩ | ⟨q2, e4⟩
        · cases e4
        · rw [List.getElem?_set_ne q2] at w
          exact g2 j2 b m p e4 w
      · rcases get_set z2 with ⟨_, e4⟩ | ⟨q2, e4⟩
        · cases e4
        · exact g3 j2 G' e4
  gpF := k.gpF
/-- the script is stored at a name -/
theorem Ok.storeOb {i : Nat} {a : V} {ns : Ob} (k : Ok K e F r s H) (h : ObOk K F a ns) : Ok K e F (r.set i (some (.ob ns))) (s.set i (some a)) H where
  len := by rw [List.length_set, List.length_set]; exact k.len
  sub := k.sub
  f0 := k.f0
  prot := k.prot
  new := k.new
  dom := k.dom
  slot := fun j d' z => by
    rcases get_set z with ⟨_, e2⟩ | ⟨q, e2⟩
    · cases e2
    · rw [List.getElem?_set_ne q]
      exact k.slot j d' e2
  box := fun j b m z => by
    rcases get_set z with ⟨_, e2⟩ | ⟨q, e2⟩
    · cases e2
    · rw [List.getElem?_set_ne q]
      exact k.box j b m e2
  ob := fun j ns' z => by
    by_cases q : i = j
    · subst q
      have hl : i < r.length := by simpa using (List.getElem?_eq_some_iff.mp z).1
      rw [List.getElem?_set_self hl] at z
      cases z
      exact ⟨a, by rw [List.getElem?_set_self (by rw [← k.len]; exact hl)], h⟩
    · rw [List.getElem?_set_ne q] at z ⊢
      exact k.ob j ns' z
  sep := fun j1 j2 p b m b' m' z1 z2 w1 w2 => by
    rcases get_set z1 with ⟨_, e2⟩ | ⟨q1, e2⟩
    · cases e2
    · rcases get_set z2 with ⟨_, e4⟩ | ⟨q2, e4⟩
      · cases e4
      · rw [List.getElem?_set_ne q1] at w1
        rw [List.getElem?_set_ne q2] at w2
        exact k.sep j1 j2 p b m b' m' e2 e4 w1 w2
  adr := fun j n a z => by
    rcases get_set z with ⟨_, e2⟩ | ⟨q, e2⟩
    · cases e2
    · rw [List.getElem?_set_ne q]
      exact k.adr j n a e2
  gh := fun j G z => by
    rcases get_set z with ⟨_, e2⟩ | ⟨q, e2⟩
    · cases e2
    · obtain ⟨g1, g2, g3⟩ := k.gh j G e2
      refine ⟨g1, fun j2 b m p z2 w => ?_, fun j2 G' z2 => ?_⟩
      · rcases get_set z2 with ⟨_, e4⟩ | ⟨q2, e4⟩
        · cases e4
        · rw [List.getElem?_set_ne q2] at w
          exact g2 j2 b m p e4 w
      · rcases get_set z2 with ⟨_, e4⟩ | ⟨q2, e4⟩
        · cases e4
        · exact g3 j2 G' e4
  gpF := k.gpF
/-- a new object is stored at a name -/
theorem Ok.storeOwn {i : Nat} {p : Addr} {o : HO} {m : MB} (k : Ok K e F r s H) (h1 : H p = some o) (h2 : MO K F o m) (h3 : F p = none) (h4 : e.P p = none) (h5 : ¬ e.old p)
    (h6 : NB r s p) : Ok K e F (r.set i (some (.box false m))) (s.set i (some (.ref p))) H where
  len := by rw [List.length_set, List.length_set]; exact k.len
  sub := k.sub
  f0 := k.f0
  prot := k.prot
  new := k.new
  dom := k.dom
  slot := fun j d' z => by
    rcases get_set z with ⟨_, e2⟩ | ⟨q, e2⟩
    · cases e2
    · rw [List.getElem?_set_ne q]
      exact k.slot j d' e2
  box := fun j b m' z => by
    by_cases q : i = j
    · subst q
      have hl : i < r.length := by simpa using (List.getElem?_eq_some_iff.mp z).1
      rw [List.getElem?_set_self hl] at z
      cases z
      exact ⟨p, o, by rw [List.getElem?_set_self (by rw [← k.len]; exact hl)], h1, h2, h3, h4, fun _ => h5, fun z => Bool.noConfusion z⟩
    · rw [List.getElem?_set_ne q] at z ⊢
      exact k.box j b m' z
  ob := fun j ns z => by
    rcases get_set z with ⟨_, e2⟩ | ⟨q, e2⟩
    · cases e2
    · rw [List.getElem?_set_ne q]
      exact k.ob j ns e2
  sep := fun j1 j2 p' b m1 b' m2 z1 z2 w1 w2 => by
    rcases get_set z1 with ⟨q1, e2⟩ | ⟨q1, e2⟩
    · rcases get_set z2 with ⟨q2, e4⟩ | ⟨q2, e4⟩
      · exact q1.symm.trans q2
      · subst q1
        have hl : i < s.length := by rw [← k.len]; simpa using (List.getElem?_eq_some_iff.mp z1).1
        rw [List.getElem?_set_self hl] at w1
        cases w1
        rw [List.getElem?_set_ne q2] at w2
        exact absurd w2 (h6.1 j2 _ _ e4)
    · rw [List.getElem?_set_ne q1] at w1
      rcases get_set z2 with ⟨q2, e4⟩ | ⟨q2, e4⟩
      · subst q2
        have hl : i < s.length := by rw [← k.len]; simpa using (List.getElem?_eq_some_iff.mp z2).1
        rw [List.getElem?_set_self hl] at w2
        cases w2
        exact absurd w1 (h6.1 j1 _ _ e2)
      · rw [List.getElem?_set_ne q2] at w2
        exact k.sep j1 j2 p' b m1 b' m2 e2 e4 w1 w2
  adr := fun j n a z => by
    rcases get_set z with ⟨_, e2⟩ | ⟨q, e2⟩
    · cases e2
    · rw [List.getElem?_set_ne q]
      exact k.adr j n a e2
  gh := fun j G z => by
    rcases get_set z with ⟨_, e2⟩ | ⟨q, e2⟩
    · cases e2
    · obtain ⟨g1, g2, g3⟩ := k.gh j G e2
      refine ⟨g1, fun j2 b m p' z2 w => ?_, fun j2 G' z2 => ?_⟩
      · rcases get_set z2 with ⟨q2, e4⟩ | ⟨q2, e4⟩
        · subst q2
          have hl : i < s.length := by rw [← k.len]; simpa using (List.getElem?_eq_some_iff.mp z2).1
          rw [List.getElem?_set_self hl] at w
          cases w
          exact h6.2 j G e2
        · rw [List.getElem?_set_ne q2] at w
          exact g2 j2 b m p' e4 w
      · rcases get_set z2 with ⟨_, e4⟩ | ⟨q2, e4⟩
        · cases e4
        · exact g3 j2 G' e4
  gpF := k.gpF
/-- the box of slot i holds another thing -/
theorem Ok.write {i : Nat} {b : Bool} {m m' : MB} {p : Addr} {o : HO} (k : Ok K e F r s H) (h : r[i]? = some (some (Ce.box b m))) (hp : s[i]? = some (some (V.ref p))) (h2 : MO K F o m') : Ok K e F (r.set i (some (.box b m'))) s (upd H p o) := by
  obtain ⟨p', o', g1, g2, g3, g4, g5, g6⟩ := k.box i b m h
  rw [hp] at g1; cases g1
  refine ⟨by rw [List.length_set]; exact k.len, ?_, k.f0, ?_, k.new, ?_, ?_, ?_, ?_, ?_, ?_, ?_, k.gpF⟩
  · intro a u q
    rw [upd_ne (ne_of_none q g4)]
    exact k.sub a u q
  · intro a u q
    rw [upd_ne (ne_of_none q g5)]
    exact k.prot a u q
  · intro a z
    by_cases q : a = p
    · subst q; rw [upd_same]; simp
    · rw [upd_ne q]; exact k.dom a z
  · intro j d z
    rcases get_set z with ⟨_, e2⟩ | ⟨q, e2⟩
    · cases e2
    · exact k.slot j d e2
  · intro j b' m1 z
    rcases get_set z with ⟨q, e2⟩ | ⟨q, e2⟩
    · cases e2
      subst q
      exact ⟨p, o, hp, upd_same, h2, g4, g5, g6⟩
    · obtain ⟨p1, o1, w1, w2, w3, w4, w5, w6⟩ := k.box j b' m1 e2
      have ne : p1 ≠ p := fun y => by subst y; exact q (k.sep i j p1 b m b' m1 h e2 hp w1)
      exact ⟨p1, o1, w1, by rw [upd_ne ne]; exact w2, w3, w4, w5, w6⟩
  · intro j ns z
    rcases get_set z with ⟨_, e2⟩ | ⟨q, e2⟩
    · cases e2
    · exact k.ob j ns e2
  · intro j1 j2 p' b1 m1 b2 m2 z1 z2 w1 w2
    have f : ∀ (j : Nat) b1 m1, (r.set i (some (Ce.box b m')))[j]? = some (some (Ce.box b1 m1)) → ∃ b2 m2, r[j]? = some (some (Ce.box b2 m2)) := fun j b1 m1 z => by
      rcases get_set z with ⟨q, e2⟩ | ⟨q, e2⟩
      · subst q; exact ⟨b, m, h⟩
      · exact ⟨b1, m1, e2⟩
    obtain ⟨_, _, y1⟩ := f j1 _ _ z1
    obtain ⟨_, _, y2⟩ := f j2 _ _ z2
    exact k.sep j1 j2 p' _ _ _ _ y1 y2 w1 w2
  · intro j n a z
    rcases get_set z with ⟨_, e2⟩ | ⟨q, e2⟩
    · cases e2
    · exact k.adr j n a e2
  · intro j G z
    rcases get_set z with ⟨_, e2⟩ | ⟨q, e2⟩
    · cases e2
    · obtain ⟨y1, y2, y3⟩ := k.gh j G e2
      refine ⟨y1.move (Sub.refl F) (fun q w u x => ?_) (fun q w => (y1.fr q w).1) fun q w => ⟨(y1.fr q w).2.1, (y1.fr q w).2.2.1⟩, fun j2 b2 m2 p2 z2 w => ?_, fun j2 G' z2 => ?_⟩
      · rw [upd_ne (fun t => by subst t; exact y2 i b m q h hp w)]; exact x
      · rcases get_set z2 with ⟨q2, e4⟩ | ⟨q2, e4⟩
        · subst q2
          exact y2 i b m p2 h w
        · exact y2 j2 b2 m2 p2 e4 w
      · rcases get_set z2 with ⟨_, e4⟩ | ⟨q2, e4⟩
        · cases e4
        · exact y3 j2 G' e4
end
section
variable {K : Fg} {e : En} {F : Hp} {r : Rho} {s : L2.St} {H : Hp}
/-- a reference to a node is stored at a name -/
theorem Ok.storeAdr {i n : Nat} {a : Addr} (k : Ok K e F r s H) : Ok K e F (r.set i (some (.adr n a))) (s.set i (some (.ref a))) H where
  len := by rw [List.length_set, List.length_set]; exact k.len
  sub := k.sub
  f0 := k.f0
  prot := k.prot
  new := k.new
  dom := k.dom
  slot := fun j d' z => by
    rcases get_set z with ⟨_, e2⟩ | ⟨q, e2⟩
    · cases e2
    · rw [List.getElem?_set_ne q]
      exact k.slot j d' e2
  box := fun j b m z => by
    rcases get_set z with ⟨_, e2⟩ | ⟨q, e2⟩
    · cases e2
    · rw [List.getElem?_set_ne q]
      exact k.box j b m e2
  ob := fun j ns' z => by
    rcases get_set z with ⟨_, e2⟩ | ⟨q, e2⟩
    · cases e2
    · rw [List.getElem?_set_ne q]
      exact k.ob j ns' e2
  sep := fun j1 j2 p b m b' m' z1 z2 w1 w2 => by
    rcases get_set z1 with ⟨_, e2⟩ | ⟨q1, e2⟩
    · cases e2
    · rcases get_set z2 with ⟨_, e4⟩ | ⟨q2, e4⟩
      · cases e4
      · rw [List.getElem?_set_ne q1] at w1
        rw [List.getElem?_set_ne q2] at w2
        exact k.sep j1 j2 p b m b' m' e2 e4 w1 w2
  adr := fun j n' a' z => by
    rcases get_set z with ⟨q, e2⟩ | ⟨q, e2⟩
    · cases e2
      subst q
      have hl : i < s.length := by rw [← k.len]; simpa using (List.getElem?_eq_some_iff.mp z).1
      rw [List.getElem?_set_self hl]
    · rw [List.getElem?_set_ne q]
      exact k.adr j n' a' e2
  gh := fun j G z => by
    rcases get_set z with ⟨_, e2⟩ | ⟨q, e2⟩
    · cases e2
    · obtain ⟨g1, g2, g3⟩ := k.gh j G e2
      refine ⟨g1, fun j2 b m p z2 w => ?_, fun j2 G' z2 => ?_⟩
      · rcases get_set z2 with ⟨_, e4⟩ | ⟨q2, e4⟩
        · cases e4
        · rw [List.getElem?_set_ne q2] at w
          exact g2 j2 b m p e4 w
      · rcases get_set z2 with ⟨_, e4⟩ | ⟨q2, e4⟩
        · cases e4
        · exact g3 j2 G' e4
  gpF := k.gpF
end
/-- what an expression gave is put into slot i -/
def put (r : Rho) (i : Nat) : R → Option Rho
  | .val d => some (r.set i (some (.val d)))
  | .own m => some (r.set i (some (.box false m)))
  | .bor j => match r[j]? with
    | some (some (.box false m)) => some ((r.set j (some (.val m.toD))).set i (some (.val m.toD)))
    | _ => none
  | .ob ns => some (r.set i (some (.ob ns)))
  | .adr n a => some (r.set i (some (.adr n a)))
section
variable {K : Fg} {e : En} {F : Hp} {r : Rho} {s : L2.St} {H : Hp}
theorem RR.put {i : Nat} {x : R} {v : V} {r' : Rho} (h : RR K e F r s H x v) (k : Ok K e F r s H) (q : DL.put r i x = some r') : ∃ F', Ok K e F' r' (s.set i (some v)) H ∧ Sub F F' := by
  cases h with
  | val a => cases q; exact ⟨F, k.store a, Sub.refl F⟩
  | own h1 h2 h3 h4 h5 h6 => cases q; exact ⟨F, k.storeOwn h1 h2 h3 h4 h5 h6, Sub.refl F⟩
  | bor a b =>
    simp only [DL.put] at q
    split at q
    · rename_i z; cases q
      obtain ⟨F', v', k', s', g1, g2⟩ := k.freezeBox z
      rw [a] at g1; cases g1
      exact ⟨F', k'.store g2, s'⟩
    · cases q
  | ob a => cases q; exact ⟨F, k.storeOb a, Sub.refl F⟩
  | adr => cases q; exact ⟨F, k.storeAdr, Sub.refl F⟩
end
section
variable {X : Cx} {st : Stmt} {rest : List Stmt} {m n : MS} {a b c : Expr} {ma mb : ME} {ta : MT} {pos pos' : Pos} {x : Str}
/-- the cells one by one -/
def strict (r : Rho) (K : Rho → Prop) : Prop := match r with
  | [] => K []
  | c :: r => strict r fun r' => K (c :: r')
theorem strict.ex : ∀ {r : Rho} {K : Rho → Prop}, strict r K → K r
  | [], _, h => h
  | _ :: r, K, h => strict.ex (r := r) h
theorem strict.mk : ∀ {r : Rho} {K : Rho → Prop}, K r → strict r K
  | [], _, h => h
  | c :: r, K, h => strict.mk (r := r) (K := fun r' => K (c :: r')) h
def onS (o : Option Rho) (K : Rho → Prop) : Prop := onO o fun r => strict r K
theorem onS.ex {o : Option Rho} {K : Rho → Prop} (h : onS o K) : ∃ r, o = some r ∧ K r := by
  obtain ⟨r, e, q⟩ := onO.ex h
  exact ⟨r, e, q.ex⟩
def sSet (i : Nat) (m : ME) : MS := fun r O => m r fun x r1 => onS (put r1 i x) O.nx
theorem ds_set {i : Nat} (hN : X.N.Nodup) (hi : X.N[i]? = some x) (hx : Loc X.env.scope x) (ha : DE X a ma) (hs : swapsWith a (some (.Name x pos')) pos.line X.env = pure false := by rfl) (hf : X.fn x = true ∨ X.env.scope.names.lookup x = some .local := by first | exact .inl rfl | exact .inr rfl | assumption) :
    DS X (.Assign [.Name x pos'] a pos) (sSet i ma) := fun e =>
  PS.imp (ps_set hN hi hx (ha e) hs hf) fun D s H ⟨F, r, k, O, hm, h⟩ => ⟨F, r, k, _, hm, fun x r1 v F1 H1 hx k1 q t => by
    obtain ⟨r2, ep, hp⟩ := onS.ex hx
    obtain ⟨F2, k2, q2⟩ := t.put k1 ep
    exact h.nx r2 _ F2 H1 hp k2 (q.trans q2)⟩
end
end DL
namespace DL
open PySem L2 PyProof.Rows
def iAny (K : Fg) (tl : TE) : TI := fun σ H R => tl σ H fun x H1 => (∃ a, x = .ref a ∧ (∃ xs, SqL K H1 a xs) ∧ R (Itl K a) H1) ∨ (∃ a, x = .ref a ∧ (∃ xs, SqT K H1 a xs) ∧ R (Itt K a) H1) ∨ ∃ z, x = .str z ∧ R (Its z) H1
section
variable {X : Cx} {tg : Expr}
theorem pi_any {l : Expr} {tl : TE} (hl : PE X l tl) : PI X tg l (iAny X.K tl) := by
  refine ⟨fun pins s σ H R I h => thn (hl.run pins s σ H _ I h) ?_⟩
  rintro v s1 ⟨x, H1, I1, r1, q1⟩
  rcases q1 with ⟨a, rfl, ⟨xs, hq⟩, q⟩ | ⟨a, rfl, ⟨xs, hq⟩, q⟩ | ⟨z, rfl, q⟩
  · cases r1
    obtain ⟨its, _, p, _⟩ := I1.list hq
    exact wpAny_pyIter_list p.isList (pi_one (tk := s1.toks) I1 _ (turn_list a _) ⟨_, Heap.get?_push_size _ rfl, rfl, rfl⟩ q)
  · cases r1
    obtain ⟨its, _, p, _⟩ := I1.tuple hq
    exact wpAny_pyIter_tuple (show s1.heap.IsTuple a its.toArray from p) (pi_one (tk := s1.toks) I1 _ (turn_tuple a _) ⟨_, Heap.get?_push_size _ rfl, rfl, rfl⟩ q)
  · obtain ⟨t, rfl⟩ := r1
    cases ha : z.cps.all (· < 128) with
    | false => exact wpAny_pyIter_wide ha (pi_one (tk := s1.toks) I1 _ (turn_str _ z t "str_iterator" (.inr rfl)) ⟨_, Heap.get?_push_size _ rfl, rfl, rfl⟩ q)
    | true => exact wpAny_pyIter_ascii ha (pi_one (tk := s1.toks) I1 _ (turn_str _ z t "str_ascii_iterator" (.inl rfl)) ⟨_, Heap.get?_push_size _ rfl, rfl, rfl⟩ q)
end
/-- J walks the data ds, which stand in F0 -/
structure ItOk (K : Fg) (F0 : Hp) (J : It) (ds : List D) : Prop where
  go : ∀ i H, Sub F0 H → i < ds.length → J.go i H
  stop : ∀ i H, Sub F0 H → ds.length ≤ i → J.stop i H
  yld : ∀ i H x H', J.yld i H x H' → ∀ e F r s, Ok K e F r s H → Sub F0 F → i < ds.length → ∃ d, ds[i]? = some d ∧ ∃ F', Ok K e F' r s H' ∧ Sub F F' ∧ Rp K F' x d
abbrev MI := Rho → (List D → Rho → Prop) → Prop
def TIt (K : Fg) (e : En) (m : MI) : TI := fun s H Q => ∃ F r, Ok K e F r s H ∧ ∃ P : List D → Rho → Prop, m r P ∧ ∀ ds r' F' H' J, P ds r' → Ok K e F' r' s H' → Sub F F' → ItOk K F' J ds → Q J H'
def DI (X : Cx) (tg a : Expr) (m : MI) : Prop := ∀ e, PI X tg a (TIt X.K e m)
theorem PI.imp {X : Cx} {tg a : Expr} {t u : TI} (h : PI X tg a t) (i : ∀ s H Q, u s H Q → t s H Q) : PI X tg a u := ⟨fun pins s σ H Q I q => h.run pins s σ H Q I (i _ _ _ q)⟩
theorem itok_list {K : Fg} {F : Hp} {a : Addr} {xs : List V} {ds : List D} (h : Rd F a (.lst xs)) (r : RpA K F xs ds) : ItOk K F (Itl K a) ds where
  go := fun i H q hi => by
    have hl : i < xs.length := by rw [r.length]; exact hi
    exact ⟨xs, xs[i], .inl (q.rd h), List.getElem?_eq_getElem hl⟩
  stop := fun i H q hi => ⟨xs, .inl (q.rd h), by rw [r.length]; exact hi⟩
  yld := fun i H x H' ⟨e1, e2⟩ e F' r' s k q hi => by
    subst e1
    obtain ⟨d, g1, g2⟩ := r.get (e2 xs (.inl ((q.trans k.sub).rd h)))
    exact ⟨d, g1, F', k, Sub.refl _, g2.mono q⟩
theorem itok_tup {K : Fg} {F : Hp} {a : Addr} {xs : List V} {ds : List D} (h : SqT K F a xs) (r : RpA K F xs ds) : ItOk K F (Itt K a) ds where
  go := fun i H q hi => by
    have hl : i < xs.length := by rw [r.length]; exact hi
    exact ⟨xs, xs[i], q.sqT h, List.getElem?_eq_getElem hl⟩
  stop := fun i H q hi => ⟨xs, q.sqT h, by rw [r.length]; exact hi⟩
  yld := fun i H x H' ⟨e1, e2⟩ e F' r' s k q hi => by
    subst e1
    obtain ⟨d, g1, g2⟩ := r.get (e2 xs ((q.trans k.sub).sqT h))
    exact ⟨d, g1, F', k, Sub.refl _, g2.mono q⟩
/-- a text's signs -/
def signsD (x : Str) : List D := x.cps.toList.map fun c => .str ⟨#[c]⟩
theorem itok_str {K : Fg} {F : Hp} {x : Str} : ItOk K F (Its x) (signsD x) where
  go := fun i H q hi => by
    have hi' : i < x.cps.size := by simpa [signsD] using hi
    exact hi'
  stop := fun i H q hi => by
    have hi' : x.cps.size ≤ i := by simpa [signsD] using hi
    exact hi'
  yld := fun i H v H' ⟨e1, c, e2, e3⟩ e F' r' s k q hi => by
    subst e1; subst e3
    refine ⟨.str ⟨#[c]⟩, ?_, F', k, Sub.refl _, .str _⟩
    rw [signsD, List.getElem?_map, Array.getElem?_toList, e2]
    rfl
/-- the data that a datum is walked by -/
def itemsD : D → Option (List D)
  | .list ds => some ds
  | .tuple ds => some ds
  | .str x => some (signsD x)
  | _ => none
def iOf (m : ME) : MI := fun r P => m r fun x r1 => onP (hold r1 x.tmp) fun qa qb => onO (itemsD qa) fun ds => strict qb fun r2 => P ds r2
section
variable {X : Cx} {tg a b c : Expr} {ma mb : ME} {pos p : Pos} {es : List Expr} {ms : MA}
theorem di_of (h : DE X a ma) : DI X tg a (iOf ma) := fun e =>
  PI.imp (pi_any (h.tmp e)) fun s H Q ⟨F, r, k, P, hm, hP⟩ => ⟨F, r, k, fun x r1 => onP (hold r1 x) fun qa qb => onO (itemsD qa) fun ds => strict qb fun r2 => P ds r2, hm, fun x r1 v F1 H1 hx k1 q1 t => by
    obtain ⟨d, r2, eh, hx2⟩ := onP.ex hx
    obtain ⟨ds, ei, hx3⟩ := onO.ex hx2
    have hp := hx3.ex
    clear hx hx2 hx3
    obtain ⟨F2, k2, q2, rp⟩ := t.hold k1 eh
    have q := q1.trans q2
    cases d with
    | list ds' =>
      cases ei
      cases rp with | lst g1 g2 => exact .inl ⟨_, rfl, ⟨_, .inl (k2.sub.rd g1)⟩, hP _ r2 F2 H1 _ hp k2 q (itok_list g1 g2)⟩
    | tuple ds' =>
      cases ei
      cases rp with | tup g1 g2 => exact .inr (.inl ⟨_, rfl, ⟨_, k2.sub.sqT g1.sqT⟩, hP _ r2 F2 H1 _ hp k2 q (itok_tup g1.sqT g2)⟩)
    | str x =>
      cases ei
      cases rp
      exact .inr (.inr ⟨x, rfl, hP _ r2 F2 H1 _ hp k2 q itok_str⟩)
    | none => cases ei
    | bool _ => cases ei
    | int _ => cases ei
    | dict _ => cases ei⟩
def rangeD (lo : Int) (n : Nat) : List D := (List.range n).map fun i => .int (lo + (i : Nat))
theorem itok_range {K : Fg} {F : Hp} {lo : Int} {n : Nat} : ItOk K F (Itr lo n) (rangeD lo n) where
  go := fun i H q hi => by
    have hi' : i < n := by simpa [rangeD] using hi
    exact hi'
  stop := fun i H q hi => by
    have hi' : n ≤ i := by simpa [rangeD] using hi
    exact hi'
  yld := fun i H v H' ⟨e1, e2⟩ e F' r' s k q hi => by
    subst e1; subst e2
    have hi' : i < n := by simpa [rangeD] using hi
    refine ⟨.int (lo + (i : Nat)), ?_, F', k, Sub.refl _, .int _⟩
    rw [rangeD, List.getElem?_map, List.getElem?_range hi']
    rfl
def okR (i : Int) : Bool := Nat.ble i.natAbs 4000000000000000000
def iRange1 (m : ME) : MI := fun r P => m r fun x r1 => onO (inOf x) fun j => rqB (okR j) (P (rangeD 0 j.toNat) r1)
def iRange2 (m n : ME) : MI := fun r P => m r fun x r1 => n r1 fun y r2 => onO (inOf x) fun i => onO (inOf y) fun j => rqB (okR i && okR j) (P (rangeD i (j - i).toNat) r2)
theorem di_range1 (hg : Gl X "range") (hm : X.mg "range" = none) (ha : DE X a ma) (hs : starEach [a] X.env = [(false, eval a X.env)] := by rfl) : DI X tg (.Call (.Name "range" p) [a] [] pos) (iRange1 ma) := fun e =>
  PI.imp (pi_range1 hg hm (pa_cons (ha e) pa_nil hs) hs) fun s H Q ⟨F, r, k, P, hm, hP⟩ => ⟨F, r, k, _, hm, fun x r1 v F1 H1 hx k1 q1 t => by
    obtain ⟨j, ei, hx2⟩ := onO.ex hx
    obtain ⟨ok, hp⟩ := rqB.ex hx2
    have e1 := inOf_of ei
    subst e1
    cases t with | val a =>
    cases a
    have ok := Nat.le_of_ble_eq_true ok
    exact ⟨j, rfl, by omega, by omega, hP _ r1 F1 H1 _ hp k1 q1 itok_range⟩⟩
theorem di_range2 (hg : Gl X "range") (hm : X.mg "range" = none) (ha : DE X a ma) (hb : DE X b mb) (hs : starEach [a, b] X.env = [(false, eval a X.env), (false, eval b X.env)] := by rfl) (hs2 : starEach [b] X.env = [(false, eval b X.env)] := by rfl) : DI X tg (.Call (.Name "range" p) [a, b] [] pos) (iRange2 ma mb) := fun e =>
  PI.imp (pi_range2 hg hm (pa_cons (ha e) (pa_cons (hb e) pa_nil hs2) (by rw [hs, hs2])) hs hs2) fun s H Q ⟨F, r, k, P, hm, hP⟩ => ⟨F, r, k, _, hm, fun x r1 v F1 H1 hx k1 q1 t => ⟨F1, r1, k1, _, hx, fun y r2 v' F2 H2 hy k2 q2 t2 => by
    obtain ⟨i, ei, hy2⟩ := onO.ex hy
    obtain ⟨j, ej, hy3⟩ := onO.ex hy2
    obtain ⟨oo, hp⟩ := rqB.ex hy3
    rw [Bool.and_eq_true] at oo
    obtain ⟨o1, o2⟩ := oo
    have e1 := inOf_of ei
    have e2 := inOf_of ej
    subst e1; subst e2
    cases t with | val a =>
    cases a
    cases t2 with | val b =>
    cases b
    have o1 := Nat.le_of_ble_eq_true o1
    have o2 := Nat.le_of_ble_eq_true o2
    exact ⟨i, j, rfl, ⟨by omega, by omega, by omega, by omega⟩, hP _ r2 F2 H2 _ hp k2 (q1.trans q2) itok_range⟩⟩⟩
end
end DL
namespace DL
open PySem L2 PyProof.Rows
abbrev GT := D → Rho → Option Rho
def TGt (K : Fg) (e : En) (vs : List Nat) (g : GT) : TG := fun v s H Q => ∃ F r d r', Ok K e F r s H ∧ Rp K F v d ∧ g d r = some r' ∧ ∀ s' F' H', Ok K e F' r' s' H' → Sub F F' → wipe s' vs = wipe s vs → Q s' H'
def DG (X : Cx) (a : Expr) (vs : List Nat) (g : GT) : Prop := ∀ e, PG X a (TGt X.K e vs g)
theorem PG.imp {X : Cx} {a : Expr} {t u : TG} (h : PG X a t) (i : ∀ v s H Q, u v s H Q → t v s H Q) : PG X a u := ⟨fun pins s σ H v w Q I r q => h.run pins s σ H v w Q I r (i _ _ _ _ q)⟩
theorem wipe_get (s : L2.St) : ∀ (vs : List Nat) (j : Nat), (wipe s vs)[j]? = if j ∈ vs ∧ j < s.length then some none else s[j]?
  | [], j => by simp [wipe]
  | v :: vs, j => by
    unfold wipe
    have ih := wipe_get s vs j
    by_cases q : v = j
    · subst q
      by_cases hl : v < s.length
      · rw [List.getElem?_set_self (by rw [wipe_length]; exact hl), if_pos ⟨List.mem_cons_self, hl⟩]
      · rw [if_neg (fun z => hl z.2), List.getElem?_eq_none (by rw [List.length_set, wipe_length]; omega), List.getElem?_eq_none (by omega)]
    · rw [List.getElem?_set_ne q, ih]
      have : j ∈ v :: vs ↔ j ∈ vs := by rw [List.mem_cons]; exact ⟨fun z => z.elim (fun y => absurd y.symm q) id, .inr⟩
      simp only [this]
theorem wipe_set {s : L2.St} {i : Nat} {x : Option V} {vs : List Nat} (h : i ∈ vs) : wipe (s.set i x) vs = wipe s vs := by
  apply List.ext_getElem?
  intro j
  rw [wipe_get, wipe_get, List.length_set]
  by_cases q : i = j
  · subst q
    by_cases hl : i < s.length
    · rw [if_pos ⟨h, hl⟩, if_pos ⟨h, hl⟩]
    · rw [if_neg (fun z => hl z.2), if_neg (fun z => hl z.2), List.getElem?_eq_none (by rw [List.length_set]; omega), List.getElem?_eq_none (by omega)]
  · rw [List.getElem?_set_ne q]
def gNm (i : Nat) : GT := fun d r => some (r.set i (some (.val d)))
abbrev GTs := List D → Rho → Option Rho
def gNl : GTs := fun ds r => match ds with
  | [] => some r
  | _ => none
def gCs (g : GT) (gs : GTs) : GTs := fun ds r => match ds with
  | d :: ds => match g d r with
    | some r1 => gs ds r1
    | none => none
  | [] => none
def gTp (n : Nat) (gs : GTs) : GT := fun d r => match d with
  | .tuple ds => if ds.length = n then gs ds r else none
  | _ => none
def TGts (K : Fg) (e : En) (vs : List Nat) (g : GTs) : TGs := fun us s H Q => ∃ F r ds r', Ok K e F r s H ∧ RpA K F us ds ∧ g ds r = some r' ∧ ∀ s' F' H', Ok K e F' r' s' H' → Sub F F' → wipe s' vs = wipe s vs → Q s' H'
def DGs (X : Cx) (a : List Expr) (vs : List Nat) (g : GTs) : Prop := ∀ e, PGs X a (TGts X.K e vs g)
theorem PGs.imp {X : Cx} {a : List Expr} {t u : TGs} (h : PGs X a t) (i : ∀ v s H Q, u v s H Q → t v s H Q) : PGs X a u := ⟨fun pins s σ H v w Q I r q => h.run pins s σ H v w Q I r (i _ _ _ _ q)⟩
section
variable {X : Cx} {a b c : Expr} {es : List Expr} {x : Str} {pos : Pos} {vs : List Nat} {g : GT} {gs : GTs}
theorem dg_name {i : Nat} (hN : X.N.Nodup) (hi : X.N[i]? = some x) (hx : Loc X.env.scope x) (hv : i ∈ vs) (hf : X.fn x = true ∨ X.env.scope.names.lookup x = some .local := by first | exact .inl rfl | exact .inr rfl | assumption) : DG X (.Name x pos) vs (gNm i) := fun e =>
  PG.imp (pg_name hN hi hx hf) fun v s H Q ⟨F, r, d, r', k, rp, eg, hQ⟩ => by
    cases eg
    exact hQ _ F H (k.store rp) (Sub.refl F) (wipe_set hv)
theorem dgs_nil : DGs X [] vs gNl := fun e => PGs.imp pgs_nil fun v s H Q ⟨F, r, d, r', k, rp, eg, hQ⟩ => by
  cases rp with
  | nil => cases eg; exact ⟨rfl, hQ s F H k (Sub.refl F) rfl⟩
  | cons _ _ => cases eg
theorem dgs_cons (h1 : DG X a vs g) (h2 : DGs X es vs gs) (hs : (assignEach (a :: es) X.env).map (·.2) = assign a X.env :: (assignEach es X.env).map (·.2) := by rfl) : DGs X (a :: es) vs (gCs g gs) := fun e =>
  PGs.imp (pgs_cons (h1 e) (h2 e) hs) fun v s H Q ⟨F, r, d, r', k, rp, eg, hQ⟩ => by
    cases rp with
    | nil => cases eg
    | cons r1 r2 =>
      simp only [gCs] at eg
      split at eg
      · rename_i r1' e1
        refine ⟨_, _, rfl, F, r, _, r1', k, r1, e1, fun s1 F1 H1 k1 q1 w1 => ⟨F1, r1', _, r', k1, r2.mono q1, eg, fun s2 F2 H2 k2 q2 w2 => hQ s2 F2 H2 k2 (q1.trans q2) (w2.trans w1)⟩⟩
      · cases eg
theorem dg_tup {k : Nat} {n : Nat} (hc : X.calm = true) (h : DGs X es vs gs) (hn : (assignEach es X.env).length = n := by rfl) (hst : (assignEach es X.env).findIdx? (·.1) = none := by rfl) : DG X (.Tuple es k pos) vs (gTp n gs) := fun e =>
  PG.imp (pg_tup hc (h e) hn hst) fun v s H Q ⟨F, r, d, r', k, rp, eg, hQ⟩ => by
    cases d with
    | tuple ds =>
      simp only [gTp] at eg
      split at eg
      · rename_i hl
        cases rp with | tup g1 g2 => exact ⟨_, _, rfl, k.sub.sqT g1.sqT, by rw [g2.length]; exact hl, F, r, ds, r', k, g2, eg, hQ⟩
      · cases eg
    | _ => cases eg
end
def loopM (g : GT) (body : MS) : List D → MS
  | [], r, O => O.nx r
  | d :: ds, r, O => onS (g d r) fun r1 => body r1 ⟨fun r' => loopM g body ds r' O, O.rt, O.nx, fun r' => loopM g body ds r' O⟩
/-- a loop: here a proof speaks -/
structure Lp (g : GT) (body : MS) (ds : List D) (r : Rho) (O : Out) : Prop where
  h : loopM g body ds r O
def sFor (mi : MI) (g : GT) (body : MS) : MS := fun r O => mi r fun ds r1 => Lp g body ds r1 O
theorem drop_cons {α : Type} {l : List α} {i : Nat} {d : α} (h : l[i]? = some d) : l.drop i = d :: l.drop (i + 1) := by
  obtain ⟨hi, e⟩ := List.getElem?_eq_some_iff.mp h
  rw [List.drop_eq_getElem_cons hi, e]
section
variable {X : Cx} {st : Stmt} {rest : List Stmt} {m n : MS} {a b c tg : Expr} {ma mb : ME} {ta : MT} {pos pos' : Pos} {x : Str} {body : List Stmt} {mi : MI} {g : GT} {vs : List Nat}
theorem ds_for (hp : PassesOwn (model X.prog X.w) X.A X.env X.xe) (hc : X.calm = true) (hi : DI X tg a mi) (hg : DG X tg vs g) (hb : DSs X body m) (hs : ∀ x, foldedSetIterable a X.env x = pure x := by intro _; rfl) : DS X (.For tg a body [] pos) (sFor mi g m) := fun e =>
  PS.imp (ps_for hp hc (hi e) (hg e) (hb e) hs) fun D s H ⟨F, r, k, O, hm, h⟩ => ⟨F, r, k, _, hm, fun ds r1 F1 H1 J hl k1 q1 ok => by
    have h1 := h.mono q1
    refine ⟨fun i m s H => ∃ F r, Ok X.K e F r s H ∧ Sub F1 F ∧ i ≤ ds.length ∧ m = ds.length - i ∧ loopM g _ (ds.drop i) r O, ⟨_, F1, r1, k1, Sub.refl _, Nat.zero_le _, rfl, by rw [List.drop_zero]; exact hl.h⟩, ?_⟩
    rintro i m s2 H2 ⟨F2, r2, k2, q2, hi, rfl, hl2⟩
    by_cases hn : i < ds.length
    · refine .inr ⟨ok.go i H2 (q2.trans k2.sub) hn, fun s H => ∃ F r, Ok X.K e F r s H ∧ Sub F1 F ∧ loopM g _ (ds.drop (i + 1)) r O, fun s3 H3 ⟨F3, r3, k3, q3, hl3⟩ => ⟨_, by omega, F3, r3, k3, q3, hn, rfl, hl3⟩, fun x H3 hy => ?_⟩
      obtain ⟨d, ed, F3, k3, q3, rp⟩ := ok.yld i H2 x H3 hy e F2 r2 s2 k2 q2 hn
      rw [drop_cons ed] at hl2
      obtain ⟨r4, eg, hb4⟩ := onS.ex hl2
      refine ⟨F3, r2, d, r4, k3, rp, eg, fun s5 F5 H5 k5 q5 _ => ⟨F5, r4, k5, _, hb4, ?_⟩⟩
      have q25 : Sub F1 F5 := (q2.trans q3).trans q5
      exact ⟨fun r' s' F' H' hn k' q' => ⟨F', r', k', q25.trans q', hn⟩, fun x r' v s' F' H' hr k' q' t => h1.rt x r' v s' F' H' hr k' (q25.trans q') t, fun r' s' F' H' hn k' q' => h1.nx r' s' F' H' hn k' (q25.trans q'), fun r' s' F' H' hn k' q' => ⟨F', r', k', q25.trans q', hn⟩⟩
    · have e0 : i = ds.length := by omega
      subst e0
      rw [List.drop_length] at hl2
      exact .inl ⟨ok.stop _ H2 (q2.trans k2.sub) (Nat.le_refl _), h1.nx r2 s2 F2 H2 hl2 k2 q2⟩⟩
end
end DL
namespace DL
open PySem L2 PyProof.Rows
def wipeR (r : Rho) : List Nat → Rho
  | [] => r
  | v :: vs => (wipeR r vs).set v none
/-- the slots vs as they were in r0 -/
def backR (r r0 : Rho) : List Nat → Rho
  | [] => r
  | v :: vs => (backR r r0 vs).set v (r0.getD v none)
theorem wipeR_length (r : Rho) : ∀ vs : List Nat, (wipeR r vs).length = r.length
  | [] => rfl
  | v :: vs => by unfold wipeR; rw [List.length_set, wipeR_length r vs]
theorem backR_length (r r0 : Rho) : ∀ vs : List Nat, (backR r r0 vs).length = r.length
  | [] => rfl
  | v :: vs => by unfold backR; rw [List.length_set, backR_length r r0 vs]
theorem wipeR_get (r : Rho) : ∀ (vs : List Nat) (j : Nat), (wipeR r vs)[j]? = if j ∈ vs ∧ j < r.length then some none else r[j]?
  | [], j => by simp [wipeR]
  | v :: vs, j => by
    unfold wipeR
    have ih := wipeR_get r vs j
    by_cases q : v = j
    · subst q
      by_cases hl : v < r.length
      · rw [List.getElem?_set_self (by rw [wipeR_length]; exact hl), if_pos ⟨List.mem_cons_self, hl⟩]
      · rw [if_neg (fun z => hl z.2), List.getElem?_eq_none (by rw [List.length_set, wipeR_length]; omega), List.getElem?_eq_none (by omega)]
    · rw [List.getElem?_set_ne q, ih]
      have : j ∈ v :: vs ↔ j ∈ vs := by rw [List.mem_cons]; exact ⟨fun z => z.elim (fun y => absurd y.symm q) id, .inr⟩
      simp only [this]
theorem backR_get (r r0 : Rho) : ∀ (vs : List Nat) (j : Nat), (backR r r0 vs)[j]? = if j ∈ vs ∧ j < r.length then some (r0.getD j none) else r[j]?
  | [], j => by simp [backR]
  | v :: vs, j => by
    unfold backR
    have ih := backR_get r r0 vs j
    by_cases q : v = j
    · subst q
      by_cases hl : v < r.length
      · rw [List.getElem?_set_self (by rw [backR_length]; exact hl), if_pos ⟨List.mem_cons_self, hl⟩]
      · rw [if_neg (fun z => hl z.2), List.getElem?_eq_none (by rw [List.length_set, backR_length]; omega), List.getElem?_eq_none (by omega)]
    · rw [List.getElem?_set_ne q, ih]
      have : j ∈ v :: vs ↔ j ∈ vs := by rw [List.mem_cons]; exact ⟨fun z => z.elim (fun y => absurd y.symm q) id, .inr⟩
      simp only [this]
section
variable {K : Fg} {e : En} {F : Hp} {r : Rho} {s : L2.St} {H : Hp}
/-- slots are forgotten -/
theorem Ok.wipe (k : Ok K e F r s H) (vs : List Nat) : Ok K e F (wipeR r vs) (L2.wipe s vs) H where
  len := by rw [wipeR_length, wipe_length]; exact k.len
  sub := k.sub
  f0 := k.f0
  prot := k.prot
  new := k.new
  dom := k.dom
  slot := fun i d z => by
    rw [wipeR_get] at z
    split at z
    · cases z
    · rename_i q
      rw [wipe_get, ← k.len, if_neg q]
      exact k.slot i d z
  box := fun i b m z => by
    rw [wipeR_get] at z
    split at z
    · cases z
    · rename_i q
      rw [wipe_get, ← k.len, if_neg q]
      exact k.box i b m z
  ob := fun i ns z => by
    rw [wipeR_get] at z
    split at z
    · cases z
    · rename_i q
      rw [wipe_get, ← k.len, if_neg q]
      exact k.ob i ns z
  sep := fun i j p b m b' m' z1 z2 w1 w2 => by
    rw [wipeR_get] at z1 z2
    split at z1
    · cases z1
    · split at z2
      · cases z2
      · rename_i q1 q2
        rw [wipe_get, ← k.len, if_neg q1] at w1
        rw [wipe_get, ← k.len, if_neg q2] at w2
        exact k.sep i j p b m b' m' z1 z2 w1 w2
  adr := fun i n a z => by
    rw [wipeR_get] at z
    split at z
    · cases z
    · rename_i q
      rw [wipe_get, ← k.len, if_neg q]
      exact k.adr i n a z
  gh := fun i G z => by
    rw [wipeR_get] at z
    split at z
    · cases z
    · obtain ⟨g1, g2, g3⟩ := k.gh i G z
      refine ⟨g1, fun j b m p z2 w => ?_, fun j G' z2 => ?_⟩
      · rw [wipeR_get] at z2
        split at z2
        · cases z2
        · rename_i q2
          rw [wipe_get, ← k.len, if_neg q2] at w
          exact g2 j b m p z2 w
      · rw [wipeR_get] at z2
        split at z2
        · cases z2
        · exact g3 j G' z2
  gpF := k.gpF
def noBox (r : Rho) (vs : List Nat) : Bool := vs.all fun v => match r.getD v none with
  | some (.box _ _) => false
  | some (.ob _) => false
  | some (.gh _) => false
  | _ => true
/-- slots come back -/
theorem Ok.back {F0 : Hp} {r0 : Rho} {H0 : Hp} {vs : List Nat} (k0 : Ok K e F0 r0 s H0) (nb : noBox r0 vs = true) (k : Ok K e F r (L2.wipe s vs) H) (q : Sub F0 F) : Ok K e F (backR r r0 vs) s H := by
  have hl : r.length = s.length := k.len.trans (wipe_length s vs)
  have nob : ∀ j ∈ vs, ∀ b m, r0.getD j none ≠ some (Ce.box b m) := fun j hj b m z => by
    have := (List.all_eq_true.mp nb) j hj
    rw [z] at this
    exact Bool.noConfusion this
  have hb : ∀ (j : Nat) b m, (backR r r0 vs)[j]? = some (some (Ce.box b m)) → ¬ (j ∈ vs ∧ j < r.length) ∧ r[j]? = some (some (Ce.box b m)) := fun j b m z => by
    rw [backR_get] at z
    split at z
    · rename_i y; exact absurd (Option.some.inj z) (nob j y.1 b m)
    · rename_i y; exact ⟨y, z⟩
  refine ⟨(backR_length r r0 vs).trans hl, k.sub, k.f0, k.prot, k.new, k.dom, ?_, ?_, ?_, ?_, ?_, ?_, k.gpF⟩
  · intro j d z
    rw [backR_get] at z
    split at z
    · rename_i y
      have z' : r0[j]? = some (some (Ce.val d)) := by
        have h1 := Option.some.inj z
        rw [List.getD_eq_getElem?_getD] at h1
        cases w : r0[j]? with
        | none => rw [w] at h1; cases h1
        | some u => rw [w] at h1; rw [show u = some (Ce.val d) from h1]
      obtain ⟨v, g1, g2⟩ := k0.slot j d z'
      exact ⟨v, g1, g2.mono q⟩
    · rename_i y
      obtain ⟨v, g1, g2⟩ := k.slot j d z
      rw [wipe_get, ← hl, if_neg y] at g1
      exact ⟨v, g1, g2⟩
  · intro j b m z
    obtain ⟨y, z⟩ := hb j b m z
    obtain ⟨p, o, g1, g2⟩ := k.box j b m z
    rw [wipe_get, ← hl, if_neg y] at g1
    exact ⟨p, o, g1, g2⟩
  · intro j ns z
    rw [backR_get] at z
    split at z
    · rename_i y
      have := (List.all_eq_true.mp nb) j y.1
      rw [Option.some.inj z] at this
      exact Bool.noConfusion this
    · rename_i y
      obtain ⟨a, g1, g2⟩ := k.ob j ns z
      rw [wipe_get, ← hl, if_neg y] at g1
      exact ⟨a, g1, g2⟩
  · intro i j p b m b' m' z1 z2 w1 w2
    obtain ⟨y1, z1⟩ := hb i b m z1
    obtain ⟨y2, z2⟩ := hb j b' m' z2
    refine k.sep i j p b m b' m' z1 z2 ?_ ?_
    · rw [wipe_get, ← hl, if_neg y1]; exact w1
    · rw [wipe_get, ← hl, if_neg y2]; exact w2
  · intro j n a z
    rw [backR_get] at z
    split at z
    · rename_i y
      have z' : r0[j]? = some (some (Ce.adr n a)) := by
        have h1 := Option.some.inj z
        rw [List.getD_eq_getElem?_getD] at h1
        cases w : r0[j]? with
        | none => rw [w] at h1; cases h1
        | some u => rw [w] at h1; rw [show u = some (Ce.adr n a) from h1]
      exact k0.adr j n a z'
    · rename_i y
      have g1 := k.adr j n a z
      rw [wipe_get, ← hl, if_neg y] at g1
      exact g1
  · intro j G z
    have hg : ∀ (j : Nat) G, (backR r r0 vs)[j]? = some (some (Ce.gh G)) → r[j]? = some (some (Ce.gh G)) := fun j G z => by
      rw [backR_get] at z
      split at z
      · rename_i y
        have := (List.all_eq_true.mp nb) j y.1
        rw [Option.some.inj z] at this
        exact Bool.noConfusion this
      · exact z
    obtain ⟨g1, g2, g3⟩ := k.gh j G (hg j G z)
    refine ⟨g1, fun j2 b m p z2 w => ?_, fun j2 G' z2 => g3 j2 G' (hg j2 G' z2)⟩
    obtain ⟨y, z3⟩ := hb j2 b m z2
    refine g2 j2 b m p z3 ?_
    rw [wipe_get, ← hl, if_neg y]; exact w
theorem nb_back {r0 : Rho} {vs : List Nat} {p : Addr} (hl : r.length = s.length) (nb : noBox r0 vs = true) (g : NB r (L2.wipe s vs) p) : NB (backR r r0 vs) s p := by
  refine ⟨fun j b m' z y => ?_, fun j G z => ?_⟩
  · rw [backR_get] at z
    split at z
    · rename_i yy
      have := (List.all_eq_true.mp nb) j yy.1
      rw [Option.some.inj z] at this
      exact Bool.noConfusion this
    · rename_i yy
      refine g.1 j b m' z ?_
      rw [wipe_get, ← hl, if_neg yy]
      exact y
  · rw [backR_get] at z
    split at z
    · rename_i yy
      have := (List.all_eq_true.mp nb) j yy.1
      rw [Option.some.inj z] at this
      exact Bool.noConfusion this
    · exact g.2 j G z
/-- one more thing that stays -/
def En.keep (e : En) (p : Addr) (o : HO) : En := ⟨e.F0, upd e.P p o, e.old, e.prm, e.gp⟩
theorem Ok.keep {p : Addr} {o : HO} (k : Ok K e F r s H) (h : H p = some o) (hF : F p = none) (hb : NB r s p) : Ok K (e.keep p o) F r s H where
  len := k.len
  sub := k.sub
  f0 := k.f0
  prot := fun a u q => by
    by_cases z : a = p
    · subst z; rw [show (e.keep a o).P = upd e.P a o from rfl, upd_same] at q; cases q; exact h
    · rw [show (e.keep p o).P = upd e.P p o from rfl, upd_ne z] at q; exact k.prot a u q
  new := fun a u q => by
    by_cases z : a = p
    · subst z; rw [hF] at q; cases q
    · rw [show (e.keep p o).P = upd e.P p o from rfl, upd_ne z]; exact k.new a u q
  dom := k.dom
  slot := k.slot
  box := fun i b m z => by
    obtain ⟨q, u, g1, g2, g3, g4, g5, g6⟩ := k.box i b m z
    have ne : q ≠ p := fun y => by subst y; exact hb.1 i b m z g1
    exact ⟨q, u, g1, g2, g3, g4, by rw [show (e.keep p o).P = upd e.P p o from rfl, upd_ne ne]; exact g5, g6⟩
  ob := k.ob
  sep := k.sep
  adr := k.adr
  gh := fun i G z => by
    obtain ⟨g1, g2, g3⟩ := k.gh i G z
    refine ⟨g1.move (Sub.refl F) (fun q w u x => x) (fun q w => (g1.fr q w).1) fun q w => ⟨?_, (g1.fr q w).2.2.1⟩, g2, g3⟩
    rw [show (e.keep p o).P = upd e.P p o from rfl, upd_ne (fun y => by subst y; exact hb.2 i G z w)]
    exact (g1.fr q w).2.1
  gpF := k.gpF
theorem Ok.unkeep {p : Addr} {o : HO} (k : Ok K (e.keep p o) F r s H) (hP : e.P p = none) (hF0 : e.F0 p = none) (hnt : ∀ xs, o ≠ .tup xs := by first | (intro _ z; cases z) | (intro _ z; have z' : HO.ext _ = HO.tup _ := z; cases z')) : Ok K e F r s H ∧ H p = some o ∧ F p = none ∧ NB r s p := by
  have hp : (e.keep p o).P p = some o := upd_same
  have hF : F p = none := by
    cases q : F p with
    | none => rfl
    | some u =>
      rcases k.new p u q with z | z | ⟨xs, z⟩
      · rw [show (e.keep p o).F0 = e.F0 from rfl, hF0] at z; cases z
      · rw [hp] at z; cases z
      · have h1 := k.sub p u q
        rw [k.prot p o hp, z] at h1
        exact absurd (Option.some.inj h1) (hnt xs)
  refine ⟨⟨k.len, k.sub, k.f0, fun a u q => ?_, fun a u q => ?_, k.dom, k.slot, fun i b m z => ?_, k.ob, k.sep, k.adr, fun i G z => ?_, k.gpF⟩, k.prot p o hp, hF, fun i b m z y => ?_, fun i G z w => ?_⟩
  · refine k.prot a u ?_
    rw [show (e.keep p o).P = upd e.P p o from rfl, upd_ne (ne_of_none q hP)]
    exact q
  · rcases k.new a u q with z | z | z
    · exact .inl z
    · by_cases y : a = p
      · subst y; rw [hp] at z; cases z
      · rw [show (e.keep p o).P = upd e.P p o from rfl, upd_ne y] at z; exact .inr (.inl z)
    · exact .inr (.inr z)
  · obtain ⟨q, u, g1, g2, g3, g4, g5, g6⟩ := k.box i b m z
    have ne : q ≠ p := fun y => by subst y; rw [hp] at g5; cases g5
    exact ⟨q, u, g1, g2, g3, g4, by rw [show (e.keep p o).P = upd e.P p o from rfl, upd_ne ne] at g5; exact g5, g6⟩
  · obtain ⟨g1, g2, g3⟩ := k.gh i G z
    refine ⟨g1.move (Sub.refl F) (fun q w u x => x) (fun q w => (g1.fr q w).1) fun q w => ⟨?_, (g1.fr q w).2.2.1⟩, g2, g3⟩
    have g5 := (g1.fr q w).2.1
    have ne : q ≠ p := fun y => by subst y; rw [hp] at g5; cases g5
    rw [show (e.keep p o).P = upd e.P p o from rfl, upd_ne ne] at g5
    exact g5
  · obtain ⟨q, u, g1, _, _, _, g5, _⟩ := k.box i b m z
    rw [y] at g1; cases g1
    rw [hp] at g5; cases g5
  · have g5 := ((k.gh i G z).1.fr p w).2.1
    rw [hp] at g5; cases g5
/-- what is kept is changed -/
theorem Ok.rekeep {p : Addr} {o o' : HO} (k : Ok K (e.keep p o) F r s H) (hP : e.P p = none) (hF0 : e.F0 p = none) (hnt : ∀ xs, o ≠ .tup xs := by first | (intro _ z; cases z) | (intro _ z; have z' : HO.ext _ = HO.tup _ := z; cases z')) : Ok K (e.keep p o') F r s (upd H p o') := by
  obtain ⟨k1, g1, g2, g3⟩ := k.unkeep hP hF0 hnt
  have k2 : Ok K e F r s (upd H p o') := by
    refine ⟨k1.len, fun a u q => ?_, k1.f0, fun a u q => ?_, k1.new, fun a z => ?_, k1.slot, fun i b m z => ?_, k1.ob, k1.sep, k1.adr, fun i G z => ?_, k1.gpF⟩
    · rw [upd_ne (ne_of_none q g2)]; exact k1.sub a u q
    · rw [upd_ne (ne_of_none q hP)]; exact k1.prot a u q
    · by_cases y : a = p
      · subst y; rw [upd_same]; simp
      · rw [upd_ne y]; exact k1.dom a z
    · obtain ⟨q, u, w1, w2, w3⟩ := k1.box i b m z
      have ne : q ≠ p := fun y => by subst y; exact g3.1 i b m z w1
      exact ⟨q, u, w1, by rw [upd_ne ne]; exact w2, w3⟩
    · obtain ⟨y1, y2, y3⟩ := k1.gh i G z
      refine ⟨y1.move (Sub.refl F) (fun q w u x => ?_) (fun q w => (y1.fr q w).1) fun q w => ⟨(y1.fr q w).2.1, (y1.fr q w).2.2.1⟩, y2, y3⟩
      rw [upd_ne (fun t => by subst t; exact g3.2 i G z w)]; exact x
  exact k2.keep upd_same g2 g3
end
def lcM (vs : List Nat) (g : GT) (tt : MT) (te : ME) (P : List D → Rho → Prop) : List D → List D → Rho → Prop
  | [], acc, r => P acc r
  | d :: ds, acc, r => onS (g d r) fun r1 => tt r1 fun b r2 => brK b (te r2 fun x r3 => onP (hold r3 x.tmp) fun qa qb => Rq (acc.length < sizeLine) (strict (wipeR qb vs) fun r4 => lcM vs g tt te P ds (acc ++ [qa]) r4)) (strict (wipeR r2 vs) fun r4 => lcM vs g tt te P ds acc r4)
/-- a comprehension: here a proof speaks -/
structure Lc (vs : List Nat) (g : GT) (tt : MT) (te : ME) (P : List D → Rho → Prop) (ds acc : List D) (r : Rho) : Prop where
  h : lcM vs g tt te P ds acc r
def mLc (vs : List Nat) (mi : MI) (g : GT) (tt : MT) (te : ME) : ME := fun r P => mi r fun ds r1 => rqB (noBox r1 vs) (strict (wipeR r1 vs) fun r0 => Lc vs g tt te (fun acc r2 => strict (backR r2 r1 vs) fun r3 => P (.own (.L acc)) r3) ds [] r0)
def bYes : MT := fun r P => P true r
def DTs (X : Cx) (ifs : List Expr) (m : MT) : Prop := ∀ e, PTs X ifs (TB X.K e m)
theorem PTs.imp {X : Cx} {a : List Expr} {t u : TT} (h : PTs X a t) (i : ∀ s H Q, u s H Q → t s H Q) : PTs X a u := ⟨fun pins s σ H Q I q => h.run pins s σ H Q I (i _ _ _ q)⟩
section
variable {X : Cx} {elt tg iter c : Expr} {ifs : List Expr} {scope : Scope} {own : List (Str × Nat)} {pos : Pos} {mi : MI} {g : GT} {tt : MT} {te : ME} {vs : List Nat}
theorem dts_nil : DTs X [] bYes := fun e => PTs.imp pts_nil fun s H Q ⟨F, r, k, P, hm, hP⟩ => hP _ r F H hm k (Sub.refl F)
theorem dts_one (h : DT X c tt) : DTs X [c] tt := fun e => pts_one (h e)
theorem lc_read {e : En} (hvs : vs = own.map (·.2)) {s : L2.St} {H : Hp} {Q : VK} (h : T X.K e (mLc vs mi g tt te) s H Q) :
    ∀ (tg' : TG) (tt' : TT) (te' : TE), (∀ e', ∀ v s H Q, TGt X.K e' vs g v s H Q → tg' v s H Q) → (∀ e', ∀ s H Q, TB X.K e' tt s H Q → tt' s H Q) → (∀ e', ∀ s H Q, Tt X.K e' (mTmp te) s H Q → te' s H Q) → tLc (TIt X.K e mi) tg' tt' te' (own.map (·.2)) s H Q := by
  intro tg' tt' te' i1 i2 i3
  rw [← hvs]
  obtain ⟨F, r, k, P, hm, hP⟩ := h
  refine ⟨F, r, k, _, hm, fun ds r1 F1 H1 J hx k1 q1 ok p hp => ?_⟩
  obtain ⟨nb, hx2⟩ := rqB.ex hx
  have hl := hx2.ex.h
  clear hx hx2
  have fr := k1.free hp
  have hF0 : e.F0 p = none := by
    cases q : e.F0 p with
    | none => rfl
    | some u => rw [k1.f0 p u q] at fr; cases fr.1
  have nb1 := k1.nobox hp
  refine ⟨fun i m H => ∃ F r xs acc, Ok X.K (e.keep p (.lst xs)) F r (wipe s vs) H ∧ Sub F1 F ∧ RpA X.K F xs acc ∧ i ≤ ds.length ∧ m = ds.length - i ∧ lcM vs g tt te (fun acc r2 => strict (backR r2 r1 vs) fun r3 => P (.own (.L acc)) r3) (ds.drop i) acc r, ?_, ?_⟩
  · have kw : Ok X.K e F1 (wipeR r1 vs) (wipe s vs) (upd H1 p (.lst [])) := (k1.wipe vs).alloc hp
    exact ⟨_, F1, _, [], [], kw.keep upd_same fr.1 ((k1.wipe vs).nobox hp), Sub.refl _, .nil, Nat.zero_le _, rfl, by rw [List.drop_zero]; exact hl⟩
  · rintro i m H2 ⟨F2, r2, xs, acc, k2, q2, ra, hi, rfl, hl2⟩
    by_cases hn : i < ds.length
    · refine .inr ⟨ok.go i H2 (q2.trans k2.sub) hn, fun H => ∃ F r xs acc, Ok X.K (e.keep p (.lst xs)) F r (wipe s vs) H ∧ Sub F1 F ∧ RpA X.K F xs acc ∧ lcM vs g tt te (fun acc r2 => strict (backR r2 r1 vs) fun r3 => P (.own (.L acc)) r3) (ds.drop (i + 1)) acc r, fun H3 ⟨F3, r3, xs3, acc3, k3, q3, ra3, hl3⟩ => ⟨_, by omega, F3, r3, xs3, acc3, k3, q3, ra3, hn, rfl, hl3⟩, fun x H3 hy => ?_⟩
      obtain ⟨d, ed, F3, k3, q3, rp⟩ := ok.yld i H2 x H3 hy _ F2 r2 _ k2 q2 hn
      rw [drop_cons ed] at hl2
      obtain ⟨r4, eg, hb4⟩ := onS.ex hl2
      refine i1 _ _ _ _ _ ⟨F3, r2, d, r4, k3, rp, eg, fun s5 F5 H5 k5 q5 w5 => ⟨w5.trans ?_, i2 _ _ _ _ ⟨F5, r4, k5, _, hb4, fun b r6 F6 H6 hb6 k6 q6 => ?_⟩⟩⟩
      · apply List.ext_getElem?
        intro j
        rw [wipe_get, wipe_get, wipe_length]
        split <;> rfl
      · have ww : wipe s5 vs = wipe s vs := w5.trans (by
          apply List.ext_getElem?
          intro j
          rw [wipe_get, wipe_get, wipe_length]
          split <;> rfl)
        have q16 : Sub F1 F6 := ((q2.trans q3).trans q5).trans q6
        have q26 : Sub F2 F6 := (q3.trans q5).trans q6
        cases b with
        | false =>
          have hb6 := strict.ex hb6
          refine iteF ?_
          refine ⟨F6, _, xs, acc, ?_, q16, ra.mono q26, hb6⟩
          rw [← ww]
          exact k6.wipe vs
        | true =>
          refine iteT ?_
          refine i3 _ _ _ _ ⟨F6, r6, k6, fun x r3 => onP (hold r3 x) fun qa qb => Rq (acc.length < sizeLine) (strict (wipeR qb vs) fun r4 => lcM vs g tt te (fun acc r2 => strict (backR r2 r1 vs) fun r3 => P (.own (.L acc)) r3) (ds.drop (i + 1)) (acc ++ [qa]) r4), hb6, fun y r7 v7 F7 H7 hx7 k7 q7 t7 => ?_⟩
          obtain ⟨d', r8, eh, hx8⟩ := onP.ex hx7
          have hz := Rq.c hx8
          have hl8 := (Rq.a hx8).ex
          obtain ⟨F8, k8, q8, rp8⟩ := t7.hold k7 eh
          obtain ⟨_, g1, _, _⟩ := k8.unkeep fr.2.1 hF0
          have q28 : Sub F2 F8 := (q26.trans q7).trans q8
          refine ⟨xs, g1, by rw [ra.length]; exact hz, F8, _, xs ++ [v7], acc ++ [d'], ?_, (q16.trans q7).trans q8, (ra.mono q28).append (.cons rp8 .nil), hl8⟩
          rw [← ww]
          exact (k8.rekeep fr.2.1 hF0).wipe vs
    · have e0 : i = ds.length := by omega
      subst e0
      rw [List.drop_length] at hl2
      obtain ⟨k3, g1, g2, g3⟩ := k2.unkeep fr.2.1 hF0
      have kb := k1.back nb k3 q2
      refine .inl ⟨ok.stop _ H2 (q2.trans k2.sub) (Nat.le_refl _), hP _ _ _ F2 H2 (strict.ex hl2) kb (q1.trans q2) (.own g1 (.L ra) g2 fr.2.1 fr.2.2 (nb_back (k2.len.trans (wipe_length s vs)) nb g3))⟩
theorem de_lc (hc : X.calm = true) (hN : X.N.Nodup) (hi : DI X tg iter mi) (ok : BlkOk X.N X.env.scope scope own)
    (hg : ∀ (s : Shared) (H : Hp) (C : Addr) (cl : List (Str × Addr)) (fp : List Addr), DG (X.blk s H scope (compEnvC scope cl C X.env) fp) tg (own.map (·.2)) g) (ht : ∀ (s : Shared) (H : Hp) (C : Addr) (cl : List (Str × Addr)) (fp : List Addr), DTs (X.blk s H scope (compEnvC scope cl C X.env) fp) ifs tt)
    (he : ∀ (s : Shared) (H : Hp) (C : Addr) (cl : List (Str × Addr)) (fp : List Addr), DE (X.blk s H scope (compEnvC scope cl C X.env) fp) elt te) (hs : ∀ x, foldedSetIterable iter X.env x = pure x := by intro _; rfl) :
    DE X (.ListComp elt [⟨tg, iter, ifs, 0⟩] scope pos) (mLc (own.map (·.2)) mi g tt te) := fun e => by
  refine PE.imp (pe_lc (g := fun v s H Q => ∃ e', TGt X.K e' (own.map (·.2)) g v s H Q) (tt := fun s H Q => ∃ e', TB X.K e' tt s H Q) (te := fun s H Q => ∃ e', Tt X.K e' (mTmp te) s H Q) hc hN (hi e) ok
    (fun s H C cl fp => ⟨fun pins s σ H v u Q I r ⟨e', q⟩ => (hg _ _ C cl fp e').run pins s σ H v u Q I r q⟩) (fun s H C cl fp => ⟨fun pins s σ H Q I ⟨e', q⟩ => (ht _ _ C cl fp e').run pins s σ H Q I q⟩) (fun s H C cl fp => ⟨fun pins s σ H Q I ⟨e', q⟩ => ((he _ _ C cl fp).tmp e').run pins s σ H Q I q⟩) hs) ?_
  exact fun s H Q h => lc_read rfl h _ _ _ (fun e' _ _ _ _ q => ⟨e', q⟩) (fun e' _ _ _ q => ⟨e', q⟩) fun e' _ _ _ q => ⟨e', q⟩
end
end DL
namespace DL
open PySem L2 PyProof.Rows
/-- an argument -/
inductive Ar where
  | val (d : D) | box (m : MB) | ob (o : Ob) | adr (n : Nat) (a : Addr) | gh (G : Gh)
abbrev Ar.scr (ns : List Int) : Ar := .ob (.scr ns)
/-- a contract: the arguments; what is wanted of the answer and of the arguments behind -/
abbrev Ct := List Ar → (R → List Ar → Prop) → Prop
inductive ArOk (K : Fg) (F H : Hp) : Ar → V → Prop
  | val {v : V} {d : D} : Rp K F v d → ArOk K F H (.val d) v
  | box {p : Addr} {o : HO} {m : MB} : H p = some o → MO K F o m → F p = none → ArOk K F H (.box m) (.ref p)
  | ob {v : V} {o : Ob} : ObOk K F v o → ArOk K F H (.ob o) v
  | adr {n : Nat} {a : Addr} : ArOk K F H (.adr n a) (.ref a)
/-- nodes that are handed in, and told behind -/
structure GhArg (K : Fg) (F H : Hp) (G : Gh) : Prop where
  nd : (fp G).Nodup
  at' : ∀ x ∈ G, NdOk K F H x
  fr : ∀ p ∈ fp G, F p = none ∧ H p ≠ none
inductive ArsOk (K : Fg) (F H : Hp) : List Ar → List V → Prop
  | nil : ArsOk K F H [] []
  | gh {G : Gh} : GhArg K F H G → ArsOk K F H [.gh G] []
  | cons {a : Ar} {v : V} {as : List Ar} {vs : List V} : ArOk K F H a v → ArsOk K F H as vs → ArsOk K F H (a :: as) (v :: vs)
/-- p is the address of a box among the arguments -/
def IsBox (as : List Ar) (vs : List V) (p : Addr) : Prop := ∃ (i : Nat) (m : MB), as[i]? = some (.box m) ∧ vs[i]? = some (.ref p)
/-- p is a node's among the arguments -/
def IsGh (as : List Ar) (p : Addr) : Prop := ∃ (i : Nat) (G : Gh), as[i]? = some (.gh G) ∧ p ∈ fp G
/-- no two boxes are one, no box is a node -/
def Apart (as : List Ar) (vs : List V) : Prop := (∀ (i : Nat) p m, as[i]? = some (Ar.box m) → vs[i]? = some (V.ref p) → ¬ IsGh as p) ∧ ∀ (i j : Nat) p m m', as[i]? = some (Ar.box m) → as[j]? = some (Ar.box m') → vs[i]? = some (V.ref p) → vs[j]? = some (V.ref p) → i = j
theorem ArsOk.get {K : Fg} {F H : Hp} : ∀ {as : List Ar} {vs : List V} {i : Nat} {a : Ar}, ArsOk K F H as vs → as[i]? = some a → (∀ G, a ≠ .gh G) → ∃ v, vs[i]? = some v ∧ ArOk K F H a v
  | _, _, _, _, .nil, e, _ => by simp at e
  | _, _, 0, _, .gh _, e, n => by simp at e; subst e; exact absurd rfl (n _)
  | _, _, _ + 1, _, .gh _, e, _ => by simp at e
  | _, _, 0, _, .cons h _, e, _ => by simp at e; subst e; exact ⟨_, rfl, h⟩
  | _, _, i + 1, a, .cons _ r, e, n => by
    obtain ⟨v, e1, h⟩ := ArsOk.get (i := i) (a := a) r (by simpa using e) n
    exact ⟨v, by simpa using e1, h⟩
theorem ArsOk.ghAt {K : Fg} {F H : Hp} : ∀ {as : List Ar} {vs : List V} {i : Nat} {G : Gh}, ArsOk K F H as vs → as[i]? = some (.gh G) → i = vs.length ∧ GhArg K F H G
  | _, _, _, _, .nil, e => by simp at e
  | _, _, 0, _, .gh h, e => by simp at e; subst e; exact ⟨rfl, h⟩
  | _, _, _ + 1, _, .gh _, e => by simp at e
  | _, _, 0, _, .cons h _, e => by simp at e; subst e; cases h
  | _, _, i + 1, G, .cons _ r, e => by
    obtain ⟨e1, h⟩ := ArsOk.ghAt (i := i) (G := G) r (by simpa using e)
    exact ⟨by rw [e1, List.length_cons], h⟩
theorem ArsOk.length {K : Fg} {F H : Hp} : ∀ {as : List Ar} {vs : List V}, ArsOk K F H as vs → vs.length ≤ as.length
  | _, _, .nil => Nat.le_refl _
  | _, _, .gh _ => Nat.zero_le _
  | _, _, .cons _ r => by rw [List.length_cons, List.length_cons]; exact Nat.succ_le_succ (ArsOk.length r)
/-- the answer of a call: what stood at its entry is H -/
inductive ReOk (K : Fg) (F' H H' : Hp) : R → V → Prop
  | val {v : V} {d : D} : Rp K F' v d → ReOk K F' H H' (.val d) v
  | own {p : Addr} {o : HO} {m : MB} : H p = none → H' p = some o → MO K F' o m → F' p = none → ReOk K F' H H' (.own m) (.ref p)
  | adr {n : Nat} {a : Addr} : ReOk K F' H H' (.adr n a) (.ref a)
/-- what a call has done -/
structure Did (K : Fg) (F H : Hp) (as : List Ar) (vs : List V) (F' H' : Hp) (as' : List Ar) : Prop where
  sub : Sub F F'
  subH : Sub F' H'
  new : ∀ a o, F' a = some o → F a = some o ∨ H a = none ∨ ∃ xs, o = .tup xs
  keep : ∀ a o, H a = some o → ¬ IsBox as vs a → ¬ IsGh as a → H' a = some o
  dom : ∀ a, H a ≠ none → H' a ≠ none
  len : as'.length = as.length
  box : ∀ (i : Nat) m p, as[i]? = some (.box m) → vs[i]? = some (.ref p) → ∃ m' o, as'[i]? = some (.box m') ∧ H' p = some o ∧ MO K F' o m' ∧ F' p = none
  gh : ∀ (i : Nat) G, as[i]? = some (.gh G) → ∃ G', as'[i]? = some (.gh G') ∧ GhArg K F' H' G' ∧ (∀ p ∈ fp G', p ∈ fp G ∨ H p = none) ∧ ∀ (j : Nat) m p, as[j]? = some (.box m) → vs[j]? = some (.ref p) → p ∉ fp G'
  gpF : ∀ p, IsGh as p → ∀ o, F' p = some o → ∃ xs, o = .tup xs
def spD (K : Fg) (n : Nat) (c : Ct) : Sp := fun vs H Q _ => ∃ F as, vs.length = n ∧ Sub F H ∧ ArsOk K F H as vs ∧ Apart as vs ∧ ∃ P, c as P ∧ ∀ x as' v F' H', P x as' → Did K F H as vs F' H' as' → ReOk K F' H H' x v → Q v H'
structure FnD (P : Program) (w : World) (K : Fg) (mg : Str → Option Value) (base : Heap) (k : Nat) (f : Addr) (fd : FuncData) (ps : List Str) (c : Ct) : Prop where
  run : ∀ (A : Around) (outer : List Env) (s : Shared) (H : Hp) (args : Args) (us : List Value) (vs : List V) (Q : VK) (E : XK), Room k A → A.guards = some [] → Env0 P w K mg base A outer s H → BindsTo s fd args (ps.zip us) → Vals vs us → spD K ps.length c vs H Q E →
    codeAny (model P w) A (.call (.ref f) args) (CR CX0 outer P w H s Q E) s
theorem FnD.mono {P : Program} {w : World} {K : Fg} {mg : Str → Option Value} {base : Heap} {j k : Nat} {f : Addr} {fd : FuncData} {ps : List Str} {c : Ct} (F : FnD P w K mg base j f fd ps c) (h : j ≤ k) : FnD P w K mg base k f fd ps c :=
  ⟨fun A outer s H args us vs Q E hr => F.run A outer s H args us vs Q E (hr.mono h)⟩
/-- a stronger contract -/
theorem FnD.imp {P : Program} {w : World} {K : Fg} {mg : Str → Option Value} {base : Heap} {k : Nat} {f : Addr} {fd : FuncData} {ps : List Str} {c c' : Ct} (F : FnD P w K mg base k f fd ps c) (h : ∀ as P, c' as P → c as P) : FnD P w K mg base k f fd ps c' :=
  ⟨fun A outer s H args us vs Q E hr hg he hb hv ⟨G, as, h1, h2, h3, h4, P, h5, h6⟩ => F.run A outer s H args us vs Q E hr hg he hb hv ⟨G, as, h1, h2, h3, h4, P, h _ _ h5, h6⟩⟩
def cellOf : Ar → Ce
  | .val d => .val d
  | .box m => .box true m
  | .ob ns => .ob ns
  | .adr n a => .adr n a
  | .gh G => .gh G
def startR (n : Nat) (as : List Ar) : Rho := as.map (fun a => some (cellOf a)) ++ List.replicate (n - as.length) none
open Classical in
noncomputable def enOf (F H : Hp) (as : List Ar) (vs : List V) : En := ⟨F, fun a => if IsBox as vs a ∨ IsGh as a then none else H a, fun a => H a ≠ none, fun i => match as[i]?, vs[i]? with
  | some (.box _), some (.ref p) => some p
  | _, _ => none, fun a => IsGh as a⟩
theorem startR_get {n : Nat} {as : List Ar} {i : Nat} {c : Ce} (h : (startR n as)[i]? = some (some c)) : ∃ a, as[i]? = some a ∧ c = cellOf a := by
  unfold startR at h
  by_cases hi : i < as.length
  · rw [List.getElem?_append_left (by simpa using hi), List.getElem?_map, List.getElem?_eq_getElem hi] at h
    exact ⟨_, List.getElem?_eq_getElem hi, (Option.some.inj (Option.some.inj h)).symm⟩
  · rw [List.getElem?_append_right (by simpa using hi), List.getElem?_replicate] at h
    split at h <;> cases h
theorem start_get {N : List Str} {vs : List V} {i : Nat} {v : V} (h : vs[i]? = some v) : (start N vs)[i]? = some (some v) := by
  unfold L2.start
  have hi := (List.getElem?_eq_some_iff.mp h).1
  rw [List.getElem?_append_left (by simpa using hi), List.getElem?_map, h]
  rfl
theorem start_of {N : List Str} {vs : List V} {i : Nat} {v : V} (h : (start N vs)[i]? = some (some v)) : vs[i]? = some v := by
  unfold L2.start at h
  by_cases hi : i < vs.length
  · rw [List.getElem?_append_left (by simpa using hi), List.getElem?_map] at h
    cases q : vs[i]? with
    | none => rw [q] at h; cases h
    | some u => rw [q] at h; cases h; rfl
  · rw [List.getElem?_append_right (by simpa using hi), List.getElem?_replicate] at h
    split at h <;> cases h
section
variable {K : Fg} {F H : Hp} {as : List Ar} {vs : List V} {N : List Str}
theorem Ok.start (hn : as.length ≤ N.length) (hs : Sub F H) (ha : ArsOk K F H as vs) (hp : Apart as vs) : Ok K (enOf F H as vs) F (startR N.length as) (L2.start N vs) H where
  len := by
    unfold startR L2.start
    rw [List.length_append, List.length_append, List.length_map, List.length_map, List.length_replicate, List.length_replicate]
    have := ha.length
    omega
  sub := hs
  f0 := Sub.refl F
  prot := fun a o q => by
    simp only [enOf] at q
    split at q
    · cases q
    · exact q
  new := fun a o q => .inl q
  dom := fun a z => z
  slot := fun i d z => by
    obtain ⟨a, e1, e2⟩ := startR_get z
    cases a with
    | val d' =>
      cases e2
      obtain ⟨v, g1, g2⟩ := ha.get e1 (by intro _ q; cases q)
      cases g2 with | val rp => exact ⟨v, start_get g1, rp⟩
    | box m => cases e2
    | ob ns => cases e2
    | adr n a => cases e2
    | gh G => cases e2
  box := fun i b m z => by
    obtain ⟨a, e1, e2⟩ := startR_get z
    cases a with
    | val d' => cases e2
    | ob ns => cases e2
    | adr n a => cases e2
    | gh G => cases e2
    | box m' =>
      cases e2
      obtain ⟨v, g1, g2⟩ := ha.get e1 (by intro _ q; cases q)
      cases g2 with
      | @box p o _ h1 h2 h3 =>
        refine ⟨p, o, start_get g1, h1, h2, h3, if_pos (.inl ⟨i, _, e1, g1⟩), fun z => Bool.noConfusion z, fun _ => ?_⟩
        simp only [enOf, e1, g1]
  ob := fun i ns z => by
    obtain ⟨a, e1, e2⟩ := startR_get z
    cases a with
    | val d' => cases e2
    | box m => cases e2
    | adr n a => cases e2
    | gh G => cases e2
    | ob ns' =>
      cases e2
      obtain ⟨v, g1, g2⟩ := ha.get e1 (by intro _ q; cases q)
      cases g2 with | ob h => exact ⟨_, start_get g1, h⟩
  sep := fun i j p b m b' m' z1 z2 w1 w2 => by
    obtain ⟨a, e1, e2⟩ := startR_get z1
    obtain ⟨a', e3, e4⟩ := startR_get z2
    cases a with
    | val d' => cases e2
    | ob ns => cases e2
    | adr n a => cases e2
    | gh G => cases e2
    | box m1 =>
      cases a' with
      | val d' => cases e4
      | ob ns => cases e4
      | adr n a => cases e4
      | gh G => cases e4
      | box m2 => exact hp.2 i j p _ _ e1 e3 (start_of w1) (start_of w2)
  adr := fun i n a z => by
    obtain ⟨x, e1, e2⟩ := startR_get z
    cases x <;> cases e2
    obtain ⟨v, g1, g2⟩ := ha.get e1 (by intro _ q; cases q)
    cases g2
    exact start_get g1
  gh := fun i G z => by
    have isg : ∀ {i : Nat} {G : Gh}, (startR N.length as)[i]? = some (some (Ce.gh G)) → as[i]? = some (.gh G) := fun {i G} z => by
      obtain ⟨x, e1, e2⟩ := startR_get z
      cases x <;> cases e2
      exact e1
    have e1 := isg z
    obtain ⟨e3, g⟩ := ha.ghAt e1
    refine ⟨⟨g.nd, g.at', fun p hp => ⟨(g.fr p hp).1, if_pos (.inr ⟨i, G, e1, hp⟩), fun _ => ⟨i, G, e1, hp⟩, (g.fr p hp).2⟩⟩, fun j b m p z2 w hp' => ?_, fun j G' z2 => ?_⟩
    · obtain ⟨x, e4, e5⟩ := startR_get z2
      cases x <;> cases e5
      exact hp.1 j p m e4 (start_of w) ⟨i, G, e1, hp'⟩
    · exact (ha.ghAt (isg z2)).1.trans e3.symm
  gpF := fun p ⟨i, G, e1, hp⟩ => ⟨fun o z => (by rw [((ha.ghAt e1).2.fr p hp).1] at z; cases z), ((ha.ghAt e1).2.fr p hp).2⟩
end
def retOf (r : Rho) : R → Option R
  | .val d => some (.val d)
  | .own m => some (.own m)
  | .bor i => match r[i]? with
    | some (some (.box false m)) => some (.own m)
    | _ => none
  | .ob _ => none
  | .adr n a => some (.adr n a)
/-- the arguments behind: the boxes and nodes as they are now -/
def endArs : Nat → List Ar → Rho → Option (List Ar)
  | _, [], _ => some []
  | i, .box _ :: as, r => match r[i]?, endArs (i + 1) as r with
    | some (some (.box true m)), some as' => some (.box m :: as')
    | _, _ => none
  | i, .gh _ :: as, r => match r[i]?, endArs (i + 1) as r with
    | some (some (.gh G)), some as' => some (.gh G :: as')
    | _, _ => none
  | i, a :: as, r => (endArs (i + 1) as r).map (a :: ·)
def EndOk (j : Nat) (as as' : List Ar) (r : Rho) : Prop := as'.length = as.length ∧ (∀ (i : Nat) m, as[i]? = some (Ar.box m) → ∃ m', as'[i]? = some (.box m') ∧ r[j + i]? = some (some (.box true m'))) ∧ ∀ (i : Nat) G, as[i]? = some (Ar.gh G) → ∃ G', as'[i]? = some (.gh G') ∧ r[j + i]? = some (some (.gh G'))
theorem EndOk.cons {j : Nat} {a a' : Ar} {as as' : List Ar} {r : Rho} (h : EndOk (j + 1) as as' r) (hb : ∀ m, a = .box m → ∃ m', a' = .box m' ∧ r[j]? = some (some (.box true m'))) (hg : ∀ G, a = .gh G → ∃ G', a' = .gh G' ∧ r[j]? = some (some (.gh G'))) : EndOk j (a :: as) (a' :: as') r := by
  obtain ⟨l, q, w⟩ := h
  refine ⟨by rw [List.length_cons, List.length_cons, l], fun i m z => ?_, fun i G z => ?_⟩
  · cases i with
    | zero =>
      obtain ⟨m', e1, e2⟩ := hb m (by simpa using z)
      exact ⟨m', by simp [e1], e2⟩
    | succ i =>
      obtain ⟨m', g1, g2⟩ := q i m (by simpa using z)
      exact ⟨m', by simpa using g1, by rw [← g2]; congr 1; omega⟩
  · cases i with
    | zero =>
      obtain ⟨m', e1, e2⟩ := hg G (by simpa using z)
      exact ⟨m', by simp [e1], e2⟩
    | succ i =>
      obtain ⟨m', g1, g2⟩ := w i G (by simpa using z)
      exact ⟨m', by simpa using g1, by rw [← g2]; congr 1; omega⟩
theorem endArs_get : ∀ {as as' : List Ar} {j : Nat} {r : Rho}, endArs j as r = some as' → EndOk j as as' r
  | [], as', j, r, h => by cases h; exact ⟨rfl, fun i m z => by simp at z, fun i m z => by simp at z⟩
  | .box m0 :: as, as', j, r, h => by
    simp only [endArs] at h
    split at h
    · rename_i m1 as1 e1 e2
      cases h
      exact (endArs_get e2).cons (fun m q => ⟨m1, rfl, e1⟩) (fun G q => by cases q)
    · cases h
  | .gh m0 :: as, as', j, r, h => by
    simp only [endArs] at h
    split at h
    · rename_i m1 as1 e1 e2
      cases h
      exact (endArs_get e2).cons (fun m q => by cases q) (fun G q => ⟨m1, rfl, e1⟩)
    · cases h
  | .val d :: as, as', j, r, h => by
    simp only [endArs, Option.map_eq_some_iff] at h
    obtain ⟨as1, e2, rfl⟩ := h
    exact (endArs_get e2).cons (fun m q => by cases q) (fun G q => by cases q)
  | .ob d :: as, as', j, r, h => by
    simp only [endArs, Option.map_eq_some_iff] at h
    obtain ⟨as1, e2, rfl⟩ := h
    exact (endArs_get e2).cons (fun m q => by cases q) (fun G q => by cases q)
  | .adr _ _ :: as, as', j, r, h => by
    simp only [endArs, Option.map_eq_some_iff] at h
    obtain ⟨as1, e2, rfl⟩ := h
    exact (endArs_get e2).cons (fun m q => by cases q) (fun G q => by cases q)
section
variable {K : Fg} {F H F' H' : Hp} {as as' : List Ar} {vs : List V} {r : Rho} {s : L2.St}
theorem Ok.did (hs : Sub F H) (ha : ArsOk K F H as vs) (k : Ok K (enOf F H as vs) F' r s H') (q : endArs 0 as r = some as') : Did K F H as vs F' H' as' := by
  obtain ⟨hl, hb, hg⟩ := endArs_get q
  have bx : ∀ (i : Nat) m p, as[i]? = some (Ar.box m) → vs[i]? = some (V.ref p) → ∃ m' o, as'[i]? = some (.box m') ∧ H' p = some o ∧ MO K F' o m' ∧ F' p = none := fun i m p e1 e2 => by
    obtain ⟨m', g1, g2⟩ := hb i m e1
    rw [Nat.zero_add] at g2
    obtain ⟨p', o, w1, w2, w3, w4, w5, w6, w7⟩ := k.box i true m' g2
    have e := w7 rfl
    simp only [enOf, e1, e2] at e
    cases e
    exact ⟨m', o, g1, w2, w3, w4⟩
  refine ⟨k.f0, k.sub, fun a o z => ?_, fun a o z nb ng => ?_, fun a z => k.dom a z, hl, bx, fun i G e1 => ?_, fun p hp => (k.gpF p hp).1⟩
  · rcases k.new a o z with y | y | y
    · exact .inl y
    · simp only [enOf] at y
      split at y
      · rename_i ib
        rcases ib with ⟨i, m, e1, e2⟩ | ig
        · obtain ⟨_, _, _, _, _, w⟩ := bx i m a e1 e2
          rw [w] at z; cases z
        · exact .inr (.inr ((k.gpF a ig).1 o z))
      · exact .inr (.inl y)
    · exact .inr (.inr y)
  · refine k.prot a o ?_
    simp only [enOf]
    rw [if_neg (fun y => y.elim nb ng)]
    exact z
  · obtain ⟨G', g1, g2⟩ := hg i G e1
    rw [Nat.zero_add] at g2
    obtain ⟨w1, w2, w3⟩ := k.gh i G' g2
    refine ⟨G', g1, ⟨w1.nd, w1.at', fun p hp => ⟨(w1.fr p hp).1, (w1.fr p hp).2.2.2⟩⟩, fun p hp => ?_, fun j m p e3 e4 => ?_⟩
    · by_cases y : H p = none
      · exact .inr y
      · obtain ⟨i2, G2, e5, e6⟩ := (w1.fr p hp).2.2.1 y
        have := (ha.ghAt e5).1.trans (ha.ghAt e1).1.symm
        subst this
        rw [e5] at e1; cases e1
        exact .inl e6
    · obtain ⟨m', y1, y2⟩ := hb j m e3
      rw [Nat.zero_add] at y2
      obtain ⟨p', o, x1, x2, x3, x4, x5, x6, x7⟩ := k.box j true m' y2
      have e := x7 rfl
      simp only [enOf, e3, e4] at e
      cases e
      exact w2 j true m' p y2 x1
theorem RR.ret {x x' : R} {v : V} (h : RR K (enOf F H as vs) F' r s H' x v) (k : Ok K (enOf F H as vs) F' r s H') (q : retOf r x = some x') : ReOk K F' H H' x' v := by
  cases h with
  | val a => cases q; exact .val a
  | own h1 h2 h3 h4 h5 h6 =>
    cases q
    exact .own (Classical.byContradiction fun z => h5 z) h1 h2 h3
  | bor a b =>
    simp only [retOf] at q
    split at q
    · rename_i m z
      cases q
      obtain ⟨p, o, g1, g2, g3, g4, g5, g6, g7⟩ := k.box _ _ _ z
      rw [a] at g1; cases g1
      exact .own (Classical.byContradiction fun z => g6 rfl z) g2 g3 g4
    · cases q
  | ob a => cases q
  | adr => cases q; exact .adr
end
/-- what a body does, as a contract -/
def ctOf (n : Nat) (m : MS) : Ct := fun as P => rqB (Nat.ble as.length n) <| strict (startR n as) fun r => m r ⟨fun r => onO (endArs 0 as r) fun as' => P (.val .none) as', fun x r => onO (retOf r x) fun x' => onO (endArs 0 as r) fun as' => P x' as', fun _ => False, fun _ => False⟩
section
variable {P : Program} {w : World} {K : Fg} {mg : Str → Option Value} {base : Heap}
/-- THE RULE: a def by its body -/
theorem fnd_of {k : Nat} {f : Addr} {name qual : Str} {params : Arguments} {body : List Stmt} {scope : Scope} {dV kV doc pm cdv ct oc : Value} {an od : Option Addr} {osl : Array (Option Value)} {N ps : List Str} {m : MS}
    (lk : K.lookup f = some ⟨oc, od, .func (PySem.W.fnOf name qual params body scope dV kV doc pm an cdv ct), osl⟩) (hcd : PySem.W.codeIn K cdv qual = true) (S : FnScope N ps scope)
    (hbody : ∀ (A : Around) (outer : List Env) (s : Shared) (H : Hp) (E : XK), Room k (A.deeper (envOfC qual scope s.heap.objs.size f cdv)) → A.guards = some [] → DSs (cxOf CX0 P w K mg base N qual scope f cdv A outer s H E).nox body m) :
    FnD P w K mg base (k + 1) f (PySem.W.fnOf name qual params body scope dV kV doc pm an cdv ct) ps (ctOf N.length m) := by
  refine ⟨fun A outer s H args us vs Q E hr hgu e0 hb r ⟨F, as, hl, hs, ha, hap, Pp, hc, hP⟩ => ?_⟩
  have KX : K.In s.heap := e0.mod.kin.keeps fun b o e => (e0.bs b o e).1
  have lim : s.heap.NoLimit := e0.mod.nolimit.keeps fun b o e => (e0.bs b o e).1
  have hkind : ∀ y ∈ ps.zip us, scope.names.lookup y.1 = some .local ∨ (scope.names.lookup y.1 = some .cell ∧ ((cellsFrom (s.heap.objs.size + 1) scope.names []).lookup y.1).isSome = true) := by
    rintro ⟨n, v⟩ hy
    rcases S.par n (List.of_mem_zip hy).1 with q | q
    · exact .inl q
    · exact .inr ⟨q, PySem.W.cellsFrom_some _ _ _ (.inl q)⟩
  refine codeAny_call_function hr.depth (KX _ _ lk) rfl S.co S.gen rfl (PySem.W.codeRec_of KX hcd) (hb _ _ _ _ (wpAny_newFunctionEnv_cells S.kind hkind ?_))
  rintro env rfl s1 x
  refine ⟨lim.keeps x.toInCall.keep, codeAny_func ?_⟩
  have I : L2.Inv (cxOf CX0 P w K mg base N qual scope f cdv A outer s H E) [] (L2.start N vs) H s1 := inv_start S hr.hd e0 hl r x
  obtain ⟨hn, hc⟩ := rqB.ex hc
  have ok : Ok K (enOf F H as vs) F (startR N.length as) (L2.start N vs) H := Ok.start (Nat.le_of_ble_eq_true hn) hs ha hap
  have hit : TSt K (enOf F H as vs) m { nx := fun _ H' => Q .non H', rt := Q } (L2.start N vs) H := by
    refine ⟨F, _, ok, _, hc.ex, ⟨?_, ?_, fun _ _ _ _ z => z.elim, fun _ _ _ _ z => z.elim⟩⟩
    · intro r' s' F' H' hx k' q'
      obtain ⟨as', ea, hp⟩ := onO.ex hx
      exact hP _ as' _ F' H' hp (k'.did hs ha ea) (.val .non)
    · intro y r' v s' F' H' hx k' q' t
      obtain ⟨y', er, hx2⟩ := onO.ex hx
      obtain ⟨as', ea, hp⟩ := onO.ex hx2
      exact hP _ as' _ F' H' hp (k'.did hs ha ea) (t.ret k' er)
  have run := ((hbody A outer s H E (hr.deeper _) hgu (enOf F H as vs)).nox).run [] s1 (L2.start N vs) H _ I hit
  refine wpAny_mono run (fun fl s' z => ?_) fun _ _ z => z
  cases fl with
  | ret u =>
    obtain ⟨v, σ', H', J, rv, q⟩ := z
    exact ⟨v, H', J.os, J.bare, J.base, J.hok, rv, q⟩
  | next =>
    obtain ⟨σ', H', J, q⟩ := z
    exact ⟨.non, H', J.os, J.bare, J.base, J.hok, rfl, q⟩
  | brk => obtain ⟨_, _, _, q⟩ := z; exact q.elim
  | cont => obtain ⟨_, _, _, q⟩ := z; exact q.elim
end
end DL
namespace DL
open PySem L2 PyProof.Rows
def arOf (r : Rho) : R → Option Ar
  | .val d => some (.val d)
  | .own m => some (.val m.toD)
  | .bor i => match r[i]? with
    | some (some (.box _ m)) => some (.box m)
    | _ => none
  | .ob ns => some (.ob ns)
  | .adr n a => some (.adr n a)
def arsOf (r : Rho) : List R → Option (List Ar)
  | [] => some []
  | x :: xs => match arOf r x, arsOf r xs with
    | some a, some as => some (a :: as)
    | _, _ => none
/-- the slots whose boxes are handed in -/
def borSlots : List R → List Nat
  | [] => []
  | .bor i :: xs => i :: borSlots xs
  | _ :: xs => borSlots xs
/-- no box is handed in twice -/
def once : List Nat → Bool
  | [] => true
  | i :: is => !is.contains i && once is
/-- the boxes behind the call -/
def backArs : Rho → List R → List Ar → Option Rho
  | r, [], [] => some r
  | r, .bor i :: xs, .box m :: as => match r[i]? with
    | some (some (.box b _)) => backArs (r.set i (some (.box b m))) xs as
    | _ => none
  | r, .val _ :: xs, _ :: as => backArs r xs as
  | r, .own _ :: xs, _ :: as => backArs r xs as
  | r, .ob _ :: xs, _ :: as => backArs r xs as
  | r, .adr _ _ :: xs, _ :: as => backArs r xs as
  | _, _, _ => none
/-- a call: here a proof speaks -/
structure Cl (c : Ct) (as : List Ar) (K : R → List Ar → Prop) : Prop where
  h : c as K
def mFn (c : Ct) (ms : MA) : ME := fun r P => ms r fun xs r1 => rqB (once (borSlots xs)) (onO (arsOf r1 xs) fun as => Cl c as fun x as' => onS (backArs r1 xs as') fun r2 => P x r2)
theorem borSlots_mem : ∀ {xs : List R} {j i : Nat}, xs[j]? = some (.bor i) → i ∈ borSlots xs
  | [], _, _, h => by simp at h
  | .bor i' :: xs, 0, i, h => by simp at h; subst h; exact List.mem_cons_self
  | .bor i' :: xs, j + 1, i, h => List.mem_cons_of_mem _ (borSlots_mem (by simpa using h))
  | .val _ :: xs, 0, i, h => by simp at h
  | .own _ :: xs, 0, i, h => by simp at h
  | .ob _ :: xs, 0, i, h => by simp at h
  | .adr _ _ :: xs, 0, i, h => by simp at h
  | .val _ :: xs, j + 1, i, h => borSlots_mem (xs := xs) (by simpa using h)
  | .own _ :: xs, j + 1, i, h => borSlots_mem (xs := xs) (by simpa using h)
  | .ob _ :: xs, j + 1, i, h => borSlots_mem (xs := xs) (by simpa using h)
  | .adr _ _ :: xs, j + 1, i, h => borSlots_mem (xs := xs) (by simpa using h)
theorem once_apart : ∀ {xs : List R}, once (borSlots xs) = true → ∀ {j j' i : Nat}, xs[j]? = some (.bor i) → xs[j']? = some (.bor i) → j = j'
  | [], _, _, _, _, h, _ => by simp at h
  | .bor i' :: xs, hn, j, j', i, h, h' => by
    simp only [borSlots, once, Bool.and_eq_true, Bool.not_eq_true', List.contains_eq_mem, decide_eq_false_iff_not] at hn
    cases j with
    | zero =>
      cases j' with
      | zero => rfl
      | succ j' =>
        simp at h; subst h
        exact absurd (borSlots_mem (by simpa using h')) hn.1
    | succ j =>
      cases j' with
      | zero =>
        simp at h'; subst h'
        exact absurd (borSlots_mem (by simpa using h)) hn.1
      | succ j' => exact congrArg (· + 1) (once_apart (i := i) hn.2 (by simpa using h) (by simpa using h'))
  | .val _ :: xs, hn, j, j', i, h, h' => by
    cases j with
    | zero => simp at h
    | succ j => cases j' with
      | zero => simp at h'
      | succ j' => exact congrArg (· + 1) (once_apart (xs := xs) (i := i) hn (by simpa using h) (by simpa using h'))
  | .own _ :: xs, hn, j, j', i, h, h' => by
    cases j with
    | zero => simp at h
    | succ j => cases j' with
      | zero => simp at h'
      | succ j' => exact congrArg (· + 1) (once_apart (xs := xs) (i := i) hn (by simpa using h) (by simpa using h'))
  | .ob _ :: xs, hn, j, j', i, h, h' => by
    cases j with
    | zero => simp at h
    | succ j => cases j' with
      | zero => simp at h'
      | succ j' => exact congrArg (· + 1) (once_apart (xs := xs) (i := i) hn (by simpa using h) (by simpa using h'))
  | .adr _ _ :: xs, hn, j, j', i, h, h' => by
    cases j with
    | zero => simp at h
    | succ j => cases j' with
      | zero => simp at h'
      | succ j' => exact congrArg (· + 1) (once_apart (xs := xs) (i := i) hn (by simpa using h) (by simpa using h'))
section
variable {K : Fg} {e : En} {F H : Hp} {r : Rho} {s : L2.St}
theorem RTs.get {xs : List R} {vs : List V} (t : RTs K F s xs vs) : ∀ {j : Nat} {x : R}, xs[j]? = some x → ∃ v, vs[j]? = some v ∧ RT K F s x v := by
  induction t with
  | nil => intro j x h; simp at h
  | cons a _ ih =>
    intro j x h
    cases j with
    | zero => simp at h; subst h; exact ⟨_, rfl, a⟩
    | succ j => obtain ⟨v, g1, g2⟩ := ih (by simpa using h); exact ⟨v, by simpa using g1, g2⟩
theorem RTs.ars {xs : List R} {vs : List V} {as : List Ar} (t : RTs K F s xs vs) (k : Ok K e F r s H) (q : arsOf r xs = some as) : ArsOk K F H as vs ∧ ∀ (j : Nat) m, as[j]? = some (Ar.box m) → ∃ i b, xs[j]? = some (.bor i) ∧ r[i]? = some (some (.box b m)) := by
  induction t generalizing as with
  | nil => cases q; exact ⟨.nil, fun j m z => by simp at z⟩
  | @cons x v xs vs a _ ih =>
    simp only [arsOf] at q
    split at q
    · rename_i a' as' e1 e2
      cases q
      obtain ⟨h1, h2⟩ := ih e2
      cases a with
      | val rp =>
        cases e1
        exact ⟨.cons (.val rp) h1, fun j m z => by
          cases j with
          | zero => simp at z
          | succ j => obtain ⟨i, b, g1, g2⟩ := h2 j m (by simpa using z); exact ⟨i, b, by simpa using g1, g2⟩⟩
      | ob rp =>
        cases e1
        exact ⟨.cons (.ob rp) h1, fun j m z => by
          cases j with
          | zero => simp at z
          | succ j => obtain ⟨i, b, g1, g2⟩ := h2 j m (by simpa using z); exact ⟨i, b, by simpa using g1, g2⟩⟩
      | adr =>
        cases e1
        exact ⟨.cons .adr h1, fun j m z => by
          cases j with
          | zero => simp at z
          | succ j => obtain ⟨i, b, g1, g2⟩ := h2 j m (by simpa using z); exact ⟨i, b, by simpa using g1, g2⟩⟩
      | @bor i _ g =>
        simp only [arOf] at e1
        split at e1
        · rename_i b m z
          cases e1
          obtain ⟨p, o, w1, w2, w3, w4, _⟩ := k.box _ _ _ z
          rw [g] at w1; cases w1
          exact ⟨.cons (.box w2 w3 w4) h1, fun j m' z' => by
            cases j with
            | zero => simp at z'; subst z'; exact ⟨i, b, rfl, z⟩
            | succ j => obtain ⟨i', b', g1, g2⟩ := h2 j m' (by simpa using z'); exact ⟨i', b', by simpa using g1, g2⟩⟩
        · cases e1
    · cases q
/-- the cells behind a call -/
theorem backArs_get : ∀ {xs : List R} {as' : List Ar} {r r2 : Rho}, once (borSlots xs) = true → backArs r xs as' = some r2 → r2.length = r.length ∧ (∀ i, i ∉ borSlots xs → r2[i]? = r[i]?) ∧
    (∀ (j i : Nat), xs[j]? = some (.bor i) → ∃ b m m', r[i]? = some (some (.box b m)) ∧ as'[j]? = some (.box m') ∧ r2[i]? = some (some (.box b m')))
  | [], as', r, r2, _, h => by
    cases as' with
    | nil => cases h; exact ⟨rfl, fun _ _ => rfl, fun j i z => by simp at z⟩
    | cons => cases h
  | .bor i :: xs, as', r, r2, hn, h => by
    cases as' with
    | nil => cases h
    | cons a as' =>
      cases a with
      | val => cases h
      | ob => cases h
      | adr => cases h
      | gh => cases h
      | box m' =>
        simp only [backArs] at h
        split at h
        · rename_i b m z
          simp only [borSlots, once, Bool.and_eq_true, Bool.not_eq_true', List.contains_eq_mem, decide_eq_false_iff_not] at hn
          obtain ⟨l, g1, g2⟩ := backArs_get hn.2 h
          have hi : i < r.length := (List.getElem?_eq_some_iff.mp z).1
          refine ⟨by rw [l, List.length_set], fun i' hi' => ?_, fun j i' e => ?_⟩
          · simp only [borSlots, List.mem_cons, not_or] at hi'
            rw [g1 i' hi'.2, List.getElem?_set_ne (Ne.symm hi'.1)]
          · cases j with
            | zero =>
              simp at e; subst e
              exact ⟨b, m, m', z, rfl, by rw [g1 i hn.1, List.getElem?_set_self hi]⟩
            | succ j =>
              obtain ⟨b1, m1, m1', w1, w2, w3⟩ := g2 j i' (by simpa using e)
              have ne : i ≠ i' := fun q => by subst q; exact hn.1 (borSlots_mem (by simpa using e))
              rw [List.getElem?_set_ne ne] at w1
              exact ⟨b1, m1, m1', w1, by simpa using w2, w3⟩
        · cases h
  | .val _ :: xs, as', r, r2, hn, h => by
    cases as' with
    | nil => cases h
    | cons a as' =>
      obtain ⟨l, g1, g2⟩ := backArs_get (xs := xs) hn (by simpa only [backArs] using h)
      exact ⟨l, g1, fun j i' e => by
        cases j with
        | zero => simp at e
        | succ j => obtain ⟨b1, m1, m1', w1, w2, w3⟩ := g2 j i' (by simpa using e); exact ⟨b1, m1, m1', w1, by simpa using w2, w3⟩⟩
  | .own _ :: xs, as', r, r2, hn, h => by
    cases as' with
    | nil => cases h
    | cons a as' =>
      obtain ⟨l, g1, g2⟩ := backArs_get (xs := xs) hn (by simpa only [backArs] using h)
      exact ⟨l, g1, fun j i' e => by
        cases j with
        | zero => simp at e
        | succ j => obtain ⟨b1, m1, m1', w1, w2, w3⟩ := g2 j i' (by simpa using e); exact ⟨b1, m1, m1', w1, by simpa using w2, w3⟩⟩
  | .ob _ :: xs, as', r, r2, hn, h => by
    cases as' with
    | nil => cases h
    | cons a as' =>
      obtain ⟨l, g1, g2⟩ := backArs_get (xs := xs) hn (by simpa only [backArs] using h)
      exact ⟨l, g1, fun j i' e => by
        cases j with
        | zero => simp at e
        | succ j => obtain ⟨b1, m1, m1', w1, w2, w3⟩ := g2 j i' (by simpa using e); exact ⟨b1, m1, m1', w1, by simpa using w2, w3⟩⟩
  | .adr _ _ :: xs, as', r, r2, hn, h => by
    cases as' with
    | nil => cases h
    | cons a as' =>
      obtain ⟨l, g1, g2⟩ := backArs_get (xs := xs) hn (by simpa only [backArs] using h)
      exact ⟨l, g1, fun j i' e => by
        cases j with
        | zero => simp at e
        | succ j => obtain ⟨b1, m1, m1', w1, w2, w3⟩ := g2 j i' (by simpa using e); exact ⟨b1, m1, m1', w1, by simpa using w2, w3⟩⟩
theorem borSlots_ix : ∀ {xs : List R} {i : Nat}, i ∈ borSlots xs → ∃ j : Nat, xs[j]? = some (R.bor i)
  | [], _, h => by simp [borSlots] at h
  | .bor i' :: xs, i, h => by
    rcases List.mem_cons.mp h with rfl | h
    · exact ⟨0, rfl⟩
    · obtain ⟨j, q⟩ := borSlots_ix h; exact ⟨j + 1, by simpa using q⟩
  | .val _ :: xs, i, h => by obtain ⟨j, q⟩ := borSlots_ix (xs := xs) h; exact ⟨j + 1, by simpa using q⟩
  | .own _ :: xs, i, h => by obtain ⟨j, q⟩ := borSlots_ix (xs := xs) h; exact ⟨j + 1, by simpa using q⟩
  | .ob _ :: xs, i, h => by obtain ⟨j, q⟩ := borSlots_ix (xs := xs) h; exact ⟨j + 1, by simpa using q⟩
  | .adr _ _ :: xs, i, h => by obtain ⟨j, q⟩ := borSlots_ix (xs := xs) h; exact ⟨j + 1, by simpa using q⟩
theorem arsOf_nogh {r : Rho} : ∀ {xs : List R} {as : List Ar}, arsOf r xs = some as → ∀ (j : Nat) G, as[j]? ≠ some (.gh G)
  | [], as, h => by cases h; intro j G z; simp at z
  | x :: xs, as, h => by
    simp only [arsOf] at h
    split at h
    · rename_i a1 as1 f1 f2
      cases h
      intro j G z
      cases j with
      | zero =>
        simp at z; subst z
        cases x with
        | bor i =>
          simp only [arOf] at f1
          split at f1 <;> cases f1
        | _ => cases f1
      | succ j => exact arsOf_nogh f2 j G (by simpa using z)
    · cases h
theorem call_okG {xs : List R} {vs : List V} {as as0 as' as1 : List Ar} {F' H' : Hp} {r2 : Rho} (t : RTs K F s xs vs) (k : Ok K e F r s H) (ho : once (borSlots xs) = true) (q : arsOf r xs = some as0) (d : Did K F H as vs F' H' as') (qb : backArs r xs as1 = some r2)
    (x0 : ∀ (j : Nat) m, as[j]? = some (Ar.box m) ↔ as0[j]? = some (Ar.box m)) (x1 : ∀ (j : Nat) m, as1[j]? = some (Ar.box m) → as'[j]? = some (Ar.box m)) (hg : ∀ p, IsGh as p → e.P p = none ∧ NB r s p) (hgp : ∀ p, e.gp p → ∀ o, F' p = some o → ∃ xs, o = .tup xs) :
    Ok K e F' r2 s H' := by
  obtain ⟨ha, hb⟩ := t.ars k q
  obtain ⟨hl, g1, g2⟩ := backArs_get ho qb
  -- a box of r2 is a box of r
  have bx : ∀ (i : Nat) b m, r2[i]? = some (some (Ce.box b m)) → ∃ m0, r[i]? = some (some (Ce.box b m0)) := fun i b m z => by
    by_cases hi : i ∈ borSlots xs
    · obtain ⟨j, ej⟩ := borSlots_ix hi
      obtain ⟨b1, m1, m1', w1, w2, w3⟩ := g2 j i ej
      rw [w3] at z
      cases z
      exact ⟨m1, w1⟩
    · rw [g1 i hi] at z; exact ⟨m, z⟩
  have ot : ∀ (i : Nat) c, r2[i]? = some (some c) → (∀ b m, c ≠ Ce.box b m) → r[i]? = some (some c) := fun i c z nc => by
    by_cases hi : i ∈ borSlots xs
    · obtain ⟨j, ej⟩ := borSlots_ix hi
      obtain ⟨b1, m1, m1', w1, w2, w3⟩ := g2 j i ej
      rw [w3] at z
      cases z
      exact absurd rfl (nc _ _)
    · rw [g1 i hi] at z; exact z
  have nf : ∀ p o, H p = some o → F p = none → H' p = some o → (∀ xs, o ≠ .tup xs) → F' p = none := fun p o h1 h2 h3 h4 => by
    cases w : F' p with
    | none => rfl
    | some u =>
      rcases d.new p u w with y | y | ⟨xs, y⟩
      · rw [h2] at y; cases y
      · rw [h1] at y; cases y
      · have h5 := d.subH p u w
        rw [h3, y] at h5
        exact absurd (Option.some.inj h5) (h4 xs)
  -- the address of a handed box
  have ib : ∀ p, IsBox as vs p → ∃ (j i : Nat) (m : MB) (b : Bool), as[j]? = some (.box m) ∧ vs[j]? = some (.ref p) ∧ xs[j]? = some (.bor i) ∧ r[i]? = some (some (.box b m)) ∧ s[i]? = some (some (.ref p)) := fun p ⟨j, m, e1, e2⟩ => by
    obtain ⟨i, b, e3, e4⟩ := hb j m ((x0 j m).mp e1)
    obtain ⟨v, w1, w2⟩ := t.get e3
    rw [e2] at w1; cases w1
    cases w2 with | bor w2 => exact ⟨j, i, m, b, e1, e2, e3, e4, w2⟩
  refine ⟨hl.trans k.len, d.subH, k.f0.trans d.sub, fun a o z => ?_, fun a o z => ?_, fun a z => d.dom a (k.dom a z), fun i v z => ?_, fun i b m z => ?_, fun i ns z => ?_, fun i j p b m b' m' z1 z2 w1 w2 => ?_, fun i n a z => ?_, fun i G z => ?_, fun p hp => ⟨hgp p hp, (k.gpF p hp).2⟩⟩
  · refine d.keep a o (k.prot a o z) (fun y => ?_) fun y => ?_
    · obtain ⟨_, i, m, b, _, _, _, e4, e5⟩ := ib a y
      obtain ⟨p, _, w1, _, _, _, w5, _⟩ := k.box i b m e4
      rw [e5] at w1; cases w1
      rw [z] at w5; cases w5
    · rw [(hg a y).1] at z; cases z
  · rcases d.new a o z with y | y | y
    · exact k.new a o y
    · refine .inr (.inl ?_)
      cases w : e.P a with
      | none => rfl
      | some u => rw [k.prot a u w] at y; cases y
    · exact .inr (.inr y)
  · obtain ⟨u, y1, y2⟩ := k.slot i v (ot i _ z (by intro _ _ q; cases q))
    exact ⟨u, y1, y2.mono d.sub⟩
  · by_cases hi : i ∈ borSlots xs
    · obtain ⟨j, ej⟩ := borSlots_ix hi
      obtain ⟨b1, m1, m1', w1, w2, w3⟩ := g2 j i ej
      rw [w3] at z
      cases z
      obtain ⟨p, o, y1, y2, y3, y4, y5, y6⟩ := k.box i b m1 w1
      obtain ⟨v, u1, u2⟩ := t.get ej
      cases u2 with | bor u2 =>
      rw [y1] at u2; cases u2
      have ej' : ∃ m2, as0[j]? = some (.box m2) := by
        have : ∀ {xs : List R} {as : List Ar} {j : Nat}, arsOf r xs = some as → xs[j]? = some (.bor i) → ∃ m2, as[j]? = some (.box m2) := by
          intro xs
          induction xs with
          | nil => intro as j _ h; simp at h
          | cons x xs ih =>
            intro as j h1 h2
            simp only [arsOf] at h1
            split at h1
            · rename_i a1 as1 f1 f2
              cases h1
              cases j with
              | zero =>
                simp at h2; subst h2
                simp only [arOf] at f1
                split at f1
                · cases f1; exact ⟨_, rfl⟩
                · cases f1
              | succ j => obtain ⟨m2, f3⟩ := ih f2 (by simpa using h2); exact ⟨m2, by simpa using f3⟩
            · cases h1
        exact this q ej
      obtain ⟨m2, ej'⟩ := ej'
      obtain ⟨m3, o3, f1, f2, f3, f4⟩ := d.box j m2 p ((x0 j m2).mpr ej') u1
      rw [x1 j _ w2] at f1; cases f1
      exact ⟨p, o3, y1, f2, f3, f4, y5, y6⟩
    · rw [g1 i hi] at z
      obtain ⟨p, o, y1, y2, y3, y4, y5, y6⟩ := k.box i b m z
      have hk : H' p = some o := d.keep p o y2 (fun y => by
        obtain ⟨j, i', m', b', _, _, e3, e4, e5⟩ := ib p y
        have := k.sep i i' p b m b' m' z e4 y1 e5
        subst this
        exact hi (borSlots_mem e3)) (fun y => (hg p y).2.1 i b m z y1)
      exact ⟨p, o, y1, hk, y3.mono d.sub, nf p o y2 y4 hk y3.ntup, y5, y6⟩
  · obtain ⟨u, y1, y2⟩ := k.ob i ns (ot i _ z (by intro _ _ q; cases q))
    exact ⟨u, y1, y2.mono d.sub⟩
  · obtain ⟨_, y1⟩ := bx i b m z1
    obtain ⟨_, y2⟩ := bx j b' m' z2
    exact k.sep i j p _ _ _ _ y1 y2 w1 w2
  · exact k.adr i n a (ot i _ z (by intro _ _ q; cases q))
  · have z' := ot i _ z (by intro _ _ q; cases q)
    obtain ⟨y1, y2, y3⟩ := k.gh i G z'
    have kg : ∀ p ∈ fp G, ∀ o, H p = some o → H' p = some o := fun p w o x => d.keep p o x (fun y => by
      obtain ⟨_, i', m, b, _, _, _, e4, e5⟩ := ib p y
      exact y2 i' b m p e4 e5 w) fun y => (hg p y).2.2 i G z' w
    refine ⟨y1.move d.sub kg (fun p w => ?_) fun p w => ⟨(y1.fr p w).2.1, (y1.fr p w).2.2.1⟩, fun j b m p z2 w => ?_, fun j G' z2 => ?_⟩
    · obtain ⟨u1, _, _, u4⟩ := y1.fr p w
      cases u : H p with
      | none => exact absurd u u4
      | some o => exact nf p o u u1 (kg p w o u) fun xs q => y1.ntup w xs (by rw [u, q])
    · obtain ⟨_, z3⟩ := bx j b m z2
      exact y2 j b _ p z3 w
    · exact y3 j G' (ot j _ z2 (by intro _ _ q; cases q))
theorem call_ok {xs : List R} {vs : List V} {as as' : List Ar} {F' H' : Hp} {r2 : Rho} (t : RTs K F s xs vs) (k : Ok K e F r s H) (ho : once (borSlots xs) = true) (q : arsOf r xs = some as) (d : Did K F H as vs F' H' as') (qb : backArs r xs as' = some r2) :
    Ok K e F' r2 s H' := by
  have ng := arsOf_nogh q
  refine call_okG t k ho q d qb (fun _ _ => Iff.rfl) (fun _ _ h => h) (fun p ⟨i, G, e1, _⟩ => absurd e1 (ng i G)) fun p hp => ?_
  intro u w
  rcases d.new p u w with y | y | y
  · exact (k.gpF p hp).1 u y
  · exact absurd y (k.dom p (k.gpF p hp).2)
  · exact y
theorem call_rr {xs : List R} {vs : List V} {as as' : List Ar} {F' H' : Hp} {r2 : Rho} {x : R} {v : V} (k : Ok K e F r s H) (ho : once (borSlots xs) = true) (qb : backArs r xs as' = some r2) (h : ReOk K F' H H' x v) : RR K e F' r2 s H' x v := by
  obtain ⟨hl, g1, g2⟩ := backArs_get ho qb
  cases h with
  | val a => exact .val a
  | adr => exact .adr
  | @own p o m h1 h2 h3 h4 =>
    have fr := k.free h1
    have nbx := k.nobox h1
    refine .own h2 h3 h4 fr.2.1 fr.2.2 ⟨fun i b m' z y => ?_, fun i G z => ?_⟩
    rotate_left
    · refine nbx.2 i G ?_
      by_cases hi : i ∈ borSlots xs
      · obtain ⟨j, ej⟩ := borSlots_ix hi
        obtain ⟨b1, m1, m1', w1, w2, w3⟩ := g2 j i ej
        rw [w3] at z
        cases z
      · rw [g1 i hi] at z; exact z
    have : ∃ m0, r[i]? = some (some (Ce.box b m0)) := by
      by_cases hi : i ∈ borSlots xs
      · obtain ⟨j, ej⟩ := borSlots_ix hi
        obtain ⟨b1, m1, m1', w1, w2, w3⟩ := g2 j i ej
        rw [w3] at z
        cases z
        exact ⟨m1, w1⟩
      · rw [g1 i hi] at z; exact ⟨m', z⟩
    obtain ⟨m0, w⟩ := this
    exact nbx.1 i b m0 w y
end
end DL
namespace DL
open PySem L2 PyProof.Rows
def TAk (X : Cx) (kws : List Keyword) (m : MA) : Prop := ∀ e, PK X kws (TAl X.K e m)
theorem PK.imp {X : Cx} {a : List Keyword} {t u : TA} (h : PK X a t) (i : ∀ s H Q, u s H Q → t s H Q) : PK X a u := ⟨fun pos pins s σ H Q I q => h.run pos pins s σ H Q I (i _ _ _ q)⟩
section
variable {X : Cx} {a : Expr} {es : List Expr} {ma : ME} {ms mk : MA} {kws : List Keyword} {nm : Option Str} {kpos : Pos}
theorem dk_nil : TAk X [] aNil := fun e => PK.imp pk_nil fun s H Q ⟨F, r, k, P, hm, hP⟩ => hP _ r _ F H hm k (Sub.refl F) .nil
theorem dk_cons (ha : DE X a ma) (hr : TAk X kws ms) : TAk X (⟨nm, a, kpos⟩ :: kws) (aCons ma ms) := fun e =>
  PK.imp (pk_cons (ha.tmp e) (hr e)) fun s H Q ⟨F, r, k, P, hm, hP⟩ => ⟨F, r, k, fun x r1 => ms r1 fun xs r2 => P (x :: xs) r2, hm, fun x r1 v F1 H1 hx k1 q1 t1 =>
    ⟨F1, r1, k1, _, hx, fun xs r2 vs F2 H2 hxs k2 q2 t2 => hP _ r2 _ F2 H2 hxs k2 (q1.trans q2) (.cons (t1.mono q2) t2)⟩⟩
end
/-- how a call binds: n values by places, those named ks by names; G puts them, and the defaults, in the parameters' order -/
structure Bd (K : Fg) (fd : FuncData) (ps : List Str) (n : Nat) (ks : List Str) (G : List R → List R → List R) : Prop where
  ex : ∃ (g : List Value → List Value → List Value) (gV : List V → List V → List V), KBn K fd ps n ks g gV ∧ (∀ vs zs, vs.length = n → zs.length = ks.length → (gV vs zs).length = ps.length) ∧
    ∀ (F : Hp) (s : L2.St) xs vs zs ws, RTs K F s xs vs → RTs K F s zs ws → vs.length = n → ws.length = ks.length → RTs K F s (G xs zs) (gV vs ws)
theorem RTs.length {K : Fg} {F : Hp} {s : L2.St} {xs : List R} {vs : List V} (t : RTs K F s xs vs) : xs.length = vs.length := by
  induction t with
  | nil => rfl
  | cons _ _ ih => rw [List.length_cons, List.length_cons, ih]
theorem RTs.append {K : Fg} {F : Hp} {s : L2.St} {xs ys : List R} {vs us : List V} (t : RTs K F s xs vs) (u : RTs K F s ys us) : RTs K F s (xs ++ ys) (vs ++ us) := by
  induction t with
  | nil => exact u
  | cons a _ ih => exact .cons a ih
/-- data that stand by themselves -/
inductive Flat : V → D → Prop
  | non : Flat .non .none
  | bl (b : Bool) : Flat (.bl b) (.bool b)
  | int (i : Int) : Flat (.int i) (.int i)
  | str (x : Str) : Flat (.str x) (.str x)
theorem Flat.rp {K : Fg} {F : Hp} {v : V} {d : D} (h : Flat v d) : Rp K F v d := by
  cases h with
  | non => exact .non
  | bl b => exact .bl b
  | int i => exact .int i
  | str x => exact .str x
inductive Flats : List V → List D → Prop
  | nil : Flats [] []
  | cons {v : V} {d : D} {vs : List V} {ds : List D} : Flat v d → Flats vs ds → Flats (v :: vs) (d :: ds)
theorem Flats.rts {K : Fg} {F : Hp} {s : L2.St} {vs : List V} {ds : List D} (h : Flats vs ds) : RTs K F s (ds.map R.val) vs := by
  induction h with
  | nil => exact .nil
  | cons a _ ih => exact .cons (.val a.rp) ih
/-- by places, the rest by defaults -/
theorem Bd.of {K : Fg} {fd : FuncData} {ps : List Str} {n : Nat} {dvs : List V} {dds : List D} {ds : List Value} (hb : Binds K fd ps ds) (hd : Vals dvs ds) (hf : Flats dvs dds) (hn : n + dvs.length = ps.length) : Bd K fd ps n [] (fun xs _ => xs ++ dds.map R.val) := by
  refine ⟨fun us _ => us ++ ds, fun vs _ => vs ++ dvs, ⟨fun s us ws KX h1 h2 => ?_, fun r _ => r.append hd⟩, fun vs zs h1 h2 => ?_, fun F s xs vs zs ws t _ _ _ => t.append hf.rts⟩
  · have hl : (us ++ ds).length = ps.length := by rw [List.length_append, h1, ← hd.length]; exact hn
    exact hb s us KX hl
  · rw [List.length_append, h1, hn]
def mFnK (c : Ct) (G : List R → List R → List R) (n m : Nat) (ms mk : MA) : ME := mFn c fun r P => ms r fun xs r1 => mk r1 fun zs r2 => rqB (decide (xs.length = n) && decide (zs.length = m)) (P (G xs zs) r2)
section
variable {X : Cx} {a : Expr} {es : List Expr} {ma : ME} {ms mk : MA} {kws : List Keyword} {k n : Nat} {f : Addr} {fd : FuncData} {ps ks : List Str} {c : Ct} {x : Str} {p pos : Pos} {G : List R → List R → List R}
theorem run_fnd {pins : List (Addr × Obj)} {σ : L2.St} {H : Hp} {s : Shared} {Q : VK} {us ws : List Value} {vs zs : List V} {g : List Value → List Value → List Value} {gV : List V → List V → List V} (F : FnD X.prog X.w X.K X.mg X.base k f fd ps c) (hr : Room k X.A) (hgu : X.A.guards = some []) (hb : KBn X.K fd ps n ks g gV)
    (I : L2.Inv X pins σ H s) (r : Vals vs us) (rz : Vals zs ws) (l1 : vs.length = n) (l2 : zs.length = ks.length) (h : spD X.K ps.length c (gV vs zs) H Q E0) : wpAny (model X.prog X.w) X.A (call (.ref f) us (ks.zip ws)) (EP X pins σ Q) X.xe s := by
  refine wpAny_call (codeAny_mono (F.run X.A X.stack s H ⟨us, ks.zip ws⟩ (g us ws) (gV vs zs) Q E0 hr hgu I.env0 (hb.to s us ws I.kIn (r.length.symm.trans l1) (rz.length.symm.trans l2)) (hb.rel r rz) h) fun y s' hq => ?_)
  cases y with
  | error e => exact False.elim hq
  | ok fl =>
    cases fl with
    | ret u => exact I.after hq
    | next => exact False.elim hq
    | brk => exact False.elim hq
    | cont => exact False.elim hq
theorem fn_read {e : En} {gV : List V → List V → List V} (hl : ∀ vs zs, vs.length = n → zs.length = ks.length → (gV vs zs).length = ps.length) (hG : ∀ (F : Hp) (s : L2.St) xs vs zs ws, RTs X.K F s xs vs → RTs X.K F s zs ws → vs.length = n → ws.length = ks.length → RTs X.K F s (G xs zs) (gV vs ws))
    {s : L2.St} {H : Hp} {Q : VK} (h : T X.K e (mFnK c G n ks.length ms mk) s H Q) : (TAl X.K e ms) s H fun vs H1 => (TAl X.K e mk) s H1 fun zs H2 => vs.length = n ∧ zs.length = ks.length ∧ spD X.K ps.length c (gV vs zs) H2 Q E0 := by
  obtain ⟨F, r, k, P, hm, hP⟩ := h
  refine ⟨F, r, k, _, hm, fun xs r1 vs F1 H1 hx k1 q1 t1 => ⟨F1, r1, k1, _, hx, fun zs r2 ws F2 H2 hz k2 q2 t2 => ?_⟩⟩
  obtain ⟨nn, hz2⟩ := rqB.ex hz
  rw [Bool.and_eq_true, decide_eq_true_eq, decide_eq_true_eq] at nn
  obtain ⟨n1, n2⟩ := nn
  obtain ⟨ho, hz3⟩ := rqB.ex hz2
  obtain ⟨as, ea, hz4⟩ := onO.ex hz3
  have hc := hz4.h
  have l1 : vs.length = n := t1.length.symm.trans n1
  have l2 : ws.length = ks.length := t2.length.symm.trans n2
  have t := hG F2 s xs vs zs ws (t1.mono q2) t2 l1 l2
  obtain ⟨ha, hb⟩ := t.ars k2 ea
  refine ⟨l1, l2, F2, as, hl _ _ l1 l2, k2.sub, ha, ?_, _, hc, fun x as' v F' H' hx d re => by
    obtain ⟨r3, eb, hp⟩ := onS.ex hx
    exact hP x r3 v F' H' hp (call_ok t k2 ho ea d eb) ((q1.trans q2).trans d.sub) (call_rr (as := as) (vs := gV vs ws) k2 ho eb re)⟩
  refine ⟨fun i p m _ _ ⟨i2, G, e5, _⟩ => arsOf_nogh ea i2 G e5, ?_⟩
  intro i j p m m' e1 e2 e3 e4
  obtain ⟨i1, b1, g1, g2⟩ := hb i m e1
  obtain ⟨i2, b2, g3, g4⟩ := hb j m' e2
  obtain ⟨v1, u1, u2⟩ := t.get g1
  obtain ⟨v2, u3, u4⟩ := t.get g3
  rw [e3] at u1; cases u1
  rw [e4] at u3; cases u3
  cases u2 with | bor u2 =>
  cases u4 with | bor u4 =>
  have := k2.sep i1 i2 p _ _ _ _ g2 g4 u2 u4
  subst this
  exact once_apart ho g1 g3
theorem de_fn (F : FnD X.prog X.w X.K X.mg X.base k f fd ps c) (hr : Room k X.A) (hgu : X.A.guards = some []) (hg : Gl X x) (hm : X.mg x = some (.ref f)) (hk : PySem.W.keepIn X.K (.ref f) = true) (hb : Bd X.K fd ps n [] G)
    (ha : DA X (a :: es) ms) (hdb : (x == ("__debug__" : Str)) = false := by decide) (he : starEach (a :: es) X.env = (false, eval a X.env) :: starEach es X.env := by rfl) (hpl : (backTo pos (starEach es X.env)).any (·.1) = false := by rfl) :
    DE X (.Call (.Name x p) (a :: es) [] pos) (mFnK c G n 0 ms aNil) := fun e => by
  obtain ⟨g, gV, hB, hl, hG⟩ := hb.ex
  refine ⟨fun pins s σ H Q I h => wpAny_Call_Name_kw (ld_glob I hg hm (PySem.W.callWith_K (h₀ := X.base) I.ok.mod.kin hk (thn ((ha e).run pos pins s σ H _ I (fn_read (ks := []) hl hG h)) ?_) he hpl) hdb)⟩
  rintro us s1 ⟨vs, H1, I1, r, q⟩
  obtain ⟨F1, r1, k1, P1, hm1, h1⟩ := q
  obtain ⟨l1, l2, q2⟩ := h1 _ r1 [] F1 H1 hm1 k1 (Sub.refl _) .nil
  exact ⟨I1.kIn, run_fnd F hr hgu hB I1 r .nil l1 rfl q2⟩
theorem de_fn0 (F : FnD X.prog X.w X.K X.mg X.base k f fd ps c) (hr : Room k X.A) (hgu : X.A.guards = some []) (hg : Gl X x) (hm : X.mg x = some (.ref f)) (hk : PySem.W.keepIn X.K (.ref f) = true) (hb : Bd X.K fd ps 0 [] G) (hdb : (x == ("__debug__" : Str)) = false := by decide) :
    DE X (.Call (.Name x p) [] [] pos) (mFnK c G 0 0 aNil aNil) := fun e => by
  obtain ⟨g, gV, hB, hl, hG⟩ := hb.ex
  refine ⟨fun pins s σ H Q I h => wpAny_Call_Name_kw (ld_glob I hg hm (PySem.W.callWith_K0 I.kIn hk ?_) hdb)⟩
  obtain ⟨F0, r0, k0, P0, hm0, h0⟩ := fn_read (ks := []) hl hG h
  obtain ⟨F1, r1, k1, P1, hm1, h1⟩ := h0 _ r0 [] F0 H hm0 k0 (Sub.refl _) .nil
  obtain ⟨l1, l2, q2⟩ := h1 _ r1 [] F1 H hm1 k1 (Sub.refl _) .nil
  exact run_fnd (us := []) (ws := []) F hr hgu hB I .nil .nil l1 rfl q2
theorem de_fnK (F : FnD X.prog X.w X.K X.mg X.base k f fd ps c) (hr : Room k X.A) (hgu : X.A.guards = some []) (hg : Gl X x) (hm : X.mg x = some (.ref f)) (hk : PySem.W.keepIn X.K (.ref f) = true) (hb : Bd X.K fd ps n ks G)
    (ha : DA X (a :: es) ms) (hkw : TAk X kws mk) (hall : (backToKw pos (keywordEach kws X.env)).all (·.1.isSome) = true := by rfl) (hks : (backToKw pos (keywordEach kws X.env)).filterMap (·.1) = ks := by rfl)
    (hdb : (x == ("__debug__" : Str)) = false := by decide) (he : starEach (a :: es) X.env = (false, eval a X.env) :: starEach es X.env := by rfl)
    (hpl : ((backTo pos (starEach (a :: es) X.env)).any (·.1) || (backToKw pos (keywordEach kws X.env)).any (·.1.isNone)) = false := by rfl) : DE X (.Call (.Name x p) (a :: es) kws pos) (mFnK c G n ks.length ms mk) := fun e => by
  obtain ⟨g, gV, hB, hl, hG⟩ := hb.ex
  refine ⟨fun pins s σ H Q I h => wpAny_Call_Name_kw (ld_glob I hg hm (PySem.W.callWith_KW (h₀ := X.base) I.ok.mod.kin hk hall (thn ((ha e).run pos pins s σ H _ I (fn_read hl hG h)) ?_) hpl he) hdb)⟩
  rintro us s1 ⟨vs, H1, I1, r, q⟩
  refine thn ((hkw e).run pos pins s1 σ H1 _ I1 q) ?_
  rintro ws s2 ⟨zs, H2, I2, rz, l1, l2, q2⟩
  refine ⟨I2.kIn, ?_⟩
  rw [hks]
  exact run_fnd F hr hgu hB I2 r rz l1 l2 q2
theorem de_fnK0 (F : FnD X.prog X.w X.K X.mg X.base k f fd ps c) (hr : Room k X.A) (hgu : X.A.guards = some []) (hg : Gl X x) (hm : X.mg x = some (.ref f)) (hk : PySem.W.keepIn X.K (.ref f) = true) (hb : Bd X.K fd ps 0 ks G)
    (hkw : TAk X kws mk) (hall : (backToKw pos (keywordEach kws X.env)).all (·.1.isSome) = true := by rfl) (hks : (backToKw pos (keywordEach kws X.env)).filterMap (·.1) = ks := by rfl)
    (hdb : (x == ("__debug__" : Str)) = false := by decide)
    (hpl : ((backTo pos (starEach [] X.env)).any (·.1) || (backToKw pos (keywordEach kws X.env)).any (·.1.isNone)) = false := by rfl) : DE X (.Call (.Name x p) [] kws pos) (mFnK c G 0 ks.length aNil mk) := fun e => by
  obtain ⟨g, gV, hB, hl, hG⟩ := hb.ex
  refine ⟨fun pins s σ H Q I h => wpAny_Call_Name_kw (ld_glob I hg hm (PySem.W.callWith_KW0 (h₀ := X.base) I.ok.mod.kin hk hall ?_ hpl) hdb)⟩
  obtain ⟨F0, r0, k0, P0, hm0, h0⟩ := fn_read hl hG h
  refine thn ((hkw e).run pos pins s σ H _ I (h0 _ r0 [] F0 H hm0 k0 (Sub.refl _) .nil)) ?_
  rintro ws s2 ⟨zs, H2, I2, rz, l1, l2, q2⟩
  refine ⟨I2.kIn, ?_⟩
  rw [hks]
  exact run_fnd (us := []) F hr hgu hB I2 .nil rz l1 l2 q2
end
section
variable {X : Cx} {a : Expr} {es : List Expr} {ma : ME} {ms : MA} {x : Str} {p pos apos : Pos} {i : Nat}
/-- what a method does to a box's list -/
abbrev FM := List D → List D → Option (D × List D)
/-- a method of lists and what it does, told so that it runs -/
structure MtK where
  f : FM
  k : List D → List D → (D → List D → Prop) → Prop
  ok : ∀ ds as K, k ds as K → ∃ d ds', f ds as = some (d, ds') ∧ K d ds'
def isL (r : Rho) (i : Nat) : Bool := match r[i]? with
  | some (some (.box _ (.L _))) => true
  | _ => false
theorem isL_of {r : Rho} {i : Nat} (h : isL r i = true) : ∃ b ds, r[i]? = some (some (Ce.box b (.L ds))) := by
  unfold isL at h
  split at h
  · exact ⟨_, _, by assumption⟩
  · cases h
def bxL (r : Rho) (i : Nat) : Option (Bool × List D) := match r[i]? with
  | some (some (.box b (.L ds))) => some (b, ds)
  | _ => none
theorem bxL_of {r : Rho} {i : Nat} {q : Bool × List D} (h : bxL r i = some q) : r[i]? = some (some (.box q.1 (.L q.2))) := by
  unfold bxL at h
  split at h
  · rename_i e; cases h; exact e
  · cases h
def mMeth (i : Nat) (o : MtK) (ms : MA) : ME := fun r P => rqB (isL r i) (ms r fun xs r1 => onP (holds r1 xs) fun qa qb => onP (bxL qb i) fun ba bb => o.k bb qa fun d ds' => strict (qb.set i (some (.box ba (.L ds')))) fun r3 => P (.val d) r3)
def MetD (X : Cx) (id : String) (f : FM) : Prop := ∃ rr : V → List V → Hp → VK → Prop, MtR X id rr ∧ ∀ (F H : Hp) (p : Addr) (xs vs : List V) (ds as : List D) (d : D) (ds' : List D) (Q : VK), Sub F H → H p = some (.lst xs) → RpA X.K F xs ds → RpA X.K F vs as → f ds as = some (d, ds') →
  (∀ v xs', RpA X.K F xs' ds' → Rp X.K F v d → Q v (upd H p (.lst xs'))) → rr (.ref p) vs H Q
theorem meth_read {e : En} {o : MtK} {rr : V → List V → Hp → VK → Prop} (hq : ∀ (F H : Hp) (p : Addr) (xs vs : List V) (ds as : List D) (d : D) (ds' : List D) (Q : VK), Sub F H → H p = some (.lst xs) → RpA X.K F xs ds → RpA X.K F vs as → o.f ds as = some (d, ds') →
    (∀ v xs', RpA X.K F xs' ds' → Rp X.K F v d → Q v (upd H p (.lst xs'))) → rr (.ref p) vs H Q) {s : L2.St} {H : Hp} {Q : VK} (h : T X.K e (mMeth i o ms) s H Q) :
    ∃ v, s[i]? = some (some v) ∧ tyV X.K "list" v H ∧ TAl X.K e ms s H fun vs H2 => rr v vs H2 Q := by
  obtain ⟨F, r, k, P, hx, hP⟩ := h
  obtain ⟨hi, hm⟩ := rqB.ex hx
  obtain ⟨b, ds, hb⟩ := isL_of hi
  obtain ⟨p, ob, g1, g2, g3, _⟩ := k.box i b _ hb
  cases g3 with | L g3 =>
  refine ⟨.ref p, g1, .inl ⟨rfl, _, SqL.of g2⟩, F, r, k, _, hm, ?_⟩
  intro xs r1 vs F1 H1 hx1 k1 q1 t1
  obtain ⟨as, r2, eh, hx2⟩ := onP.ex hx1
  obtain ⟨b2, ds2, er', hx3⟩ := onP.ex hx2
  obtain ⟨d, ds', ef, hx4⟩ := o.ok _ _ _ hx3
  have er := bxL_of er'
  have hp := hx4.ex
  simp only at er ef hp
  obtain ⟨F2, k2, q2, ra⟩ := t1.holds k1 eh
  obtain ⟨p2, o2, w1, w2, w3, w4, w5, w6⟩ := k2.box i b2 _ er
  rw [g1] at w1; cases w1
  cases w3 with | L w3 =>
  exact hq F2 H1 p _ vs ds2 as d ds' Q k2.sub w2 w3 ra ef fun v xs' h1 h2 => hP _ _ v F2 _ hp (k2.write er g1 (.L h1)) (q1.trans q2) (.val h2)
theorem de_meth {id : String} {name : Str} {o : MtK} (hm : MetD X id o.f) (slot : Slot "list" name id) (hty : typeOf (.builtin id) = pure (.type "method_descriptor")) (hN : X.N[i]? = some x) (hv : Vis X.env.scope x) (ha : DA X (a :: es) ms)
    (hd : (x == ("__debug__" : Str)) = false := by decide) (hcd : (x == ("__classdict__" : Str)) = false := by decide) (hbase : attributeBase (.Name x p) name X.env (eval (.Name x p) X.env) = eval (.Name x p) X.env := by rfl)
    (hfew : ((backTo pos (starEach (a :: es) X.env)).all (fun x => !x.1) && (backToKw pos (keywordEach [] X.env)).all (fun x => x.1.isSome) && decide ((a :: es).length + ([] : List Keyword).length + (if ([] : List Keyword).isEmpty then 0 else 1) < 30)) = true := by rfl)
    (hline : (apos.endLine == pos.line) = true := by rfl) (hs : starEach (a :: es) X.env = (false, eval a X.env) :: starEach es X.env := by rfl) (hplain : (backTo pos (starEach es X.env)).any (·.1) = false := by rfl) : DE X (.Call (.Attribute (.Name x p) name apos) (a :: es) [] pos) (mMeth i o ms) := fun e => by
  obtain ⟨rr, hr, hq⟩ := hm
  exact PE.imp (pe_bm PySem.F.plainAttrs_list slot hty hr (pe_var hN hv hd hcd) (ha e) hbase hfew hline hs hplain) fun s H Q h => by
    obtain ⟨v, h1, h2, h3⟩ := meth_read hq h
    exact ⟨v, h1, h2, h3⟩
def fAppend : FM := fun ds as => match as with
  | [d] => if ds.length < sizeLine then some (.none, ds ++ [d]) else none
  | _ => none
theorem met_append : MetD X "list.append" fAppend := by
  refine ⟨_, mt_append, fun F H p xs vs ds as d ds' Q sb hp r1 r2 ef w => ?_⟩
  unfold fAppend at ef
  split at ef
  · split at ef
    · rename_i hz; cases ef
      cases r2 with | cons a b =>
      cases b
      exact ⟨p, xs, _, rfl, rfl, hp, by rw [r1.length]; exact hz, w _ _ (r1.append (.cons a .nil)) .non⟩
    · cases ef
  · cases ef
def rExtR : V → List V → Hp → VK → Prop := fun x vs H Q => ∃ l b xs zs, x = .ref l ∧ vs = [.ref b] ∧ H l = some (.lst xs) ∧ Rd H b (.lst zs) ∧ xs.length + zs.length ≤ sizeLine ∧ Q .non (upd H l (.lst (xs ++ zs)))
theorem mt_extendR : MtM X "list.extend" rExtR := by
  rintro pins s σ H _ _ v us Q I rx rv ⟨l, b, xs, zs, rfl, rfl, hH, hB, hz, q⟩
  cases rx
  obtain ⟨u, rfl, ru⟩ := rv.one
  cases ru
  obtain ⟨z, its, n, r, hl, e⟩ := I.lstM hH
  obtain ⟨_, i2, n2, r2, e2⟩ := rd_list hB I.hok
  have l2 := r2.length
  have hsz : its.toArray.size + i2.toArray.size ≤ sizeLine := by rw [List.size_toArray, List.size_toArray]; omega
  have hlong : ¬ (!its.toArray.isEmpty && Builtin.List.listTooLong (its.toArray.size + i2.toArray.size)) = true := by
    rw [notLongL hsz, Bool.and_false]; exact Bool.false_ne_true
  refine call_meets PySem.F.slot_list_extend ⟨_, e, rfl⟩ PySem.F.entry_list_extend (PySem.F.args_list_extend_2 _ _) (AutoSeq1.list_extend_list_list_0 l its.toArray n b i2.toArray n2 hlong (by rw [List.size_toArray]; omega) (by omega)) ⟨e, e2, ?_⟩
  exact ⟨.non, _, I.lset (its' := its ++ i2) hH e (by simp) (r.append r2) (by rw [List.length_append]; omega), rfl, q⟩
def fExtend : FM := fun ds as => match as with
  | [.list es] => if ds.length + es.length ≤ sizeLine then some (.none, ds ++ es) else none
  | _ => none
theorem met_extend : MetD X "list.extend" fExtend := by
  refine ⟨_, mt_extendR, fun F H p xs vs ds as d ds' Q sb hp r1 r2 ef w => ?_⟩
  unfold fExtend at ef
  split at ef
  · split at ef
    · rename_i hz; cases ef
      cases r2 with | cons a b =>
      cases b
      cases a with | lst g1 g2 => exact ⟨p, _, xs, _, rfl, rfl, hp, sb.rd g1, by rw [r1.length, g2.length]; exact hz, w _ _ (r1.append g2) .non⟩
    · cases ef
  · cases ef
end
def kAppend (ds as : List D) (K : D → List D → Prop) : Prop := match as with
  | [d] => Rq (ds.length < sizeLine) (K .none (ds ++ [d]))
  | _ => False
def tAppend : MtK := ⟨fAppend, kAppend, fun ds as K h => by
  unfold kAppend at h
  split at h
  · exact ⟨_, _, rq_if h, Rq.a h⟩
  · exact h.elim⟩
def kExtend (ds as : List D) (K : D → List D → Prop) : Prop := match as with
  | [.list es] => Rq (ds.length + es.length ≤ sizeLine) (K .none (ds ++ es))
  | _ => False
def tExtend : MtK := ⟨fExtend, kExtend, fun ds as K h => by
  unfold kExtend at h
  split at h
  · exact ⟨_, _, rq_if h, Rq.a h⟩
  · exact h.elim⟩
end DL
namespace DL
open PySem L2 PyProof.Rows
section
variable {prog : Program} {w : World} {A : Around} {E : Value → Shared → Prop} {s : Shared}
theorem star_fin {items : Array Value} {n i : Nat} {Q : List Value → Shared → Prop} {h2 : Heap} {tk : Nat} (hi : i < n) (hn : n ≤ items.size + 1) (hz : items.size ≤ sizeLine)
    (hQ : Q (items.toList.take i ++ [.ref h2.objs.size] ++ (items.toList.drop i).drop (items.size + 1 - n)) { s with heap := h2.push { cls := .type "list", data := .seq ((items.toList.drop i).take (items.size + 1 - n)).toArray }, toks := tk }) :
    wpAny (model prog w) A (do
      if (items.toList.drop i).length < n - 1 - i then
        rule "unpack.star.too-few"
        raiseError "ValueError" s!"not enough values to unpack (expected at least {n - 1}, got {i + (items.toList.drop i).length})"
      pure (items.toList.take i ++ [← newList ((items.toList.drop i).take ((items.toList.drop i).length - (n - 1 - i)))] ++ (items.toList.drop i).drop ((items.toList.drop i).length - (n - 1 - i)))) Q E { s with heap := h2, toks := tk } := by
  have hrl : (items.toList.drop i).length = items.size - i := by rw [List.length_drop, Array.length_toList]
  have hmid : (items.toList.drop i).length - (n - 1 - i) = items.size + 1 - n := by rw [hrl]; omega
  rw [if_neg (by rw [hrl]; omega), hmid]
  exact wpAny_bind (wpAny_newList (wpAny_pure hQ) (by rw [List.length_take, hrl]; omega))
theorem star_tuple {t : Addr} {items : Array Value} {n i : Nat} {Q : List Value → Shared → Prop} (hh : A.handled = none) (ht : IsTup s.heap t items) (hi : i < n) (hn : n ≤ items.size + 1) (hz : items.size ≤ sizeLine)
    (hQ : ∀ (h' : Heap) (tk : Nat), (∀ b o, s.heap.get? b = some o → h'.get? b = some o) → Q (items.toList.take i ++ [.ref h'.objs.size] ++ (items.toList.drop i).drop (items.size + 1 - n)) { s with heap := h'.push { cls := .type "list", data := .seq ((items.toList.drop i).take (items.size + 1 - n)).toArray }, toks := tk }) :
    wpAny (model prog w) A (unpackItems (.ref t) n (some i)) Q E s := by
  have lt : t < s.heap.objs.size := by obtain ⟨o, ho, _⟩ := ht; exact Heap.lt_size ho
  have hlt : t ≠ s.heap.objs.size := Nat.ne_of_lt lt
  unfold unpackItems notIterableAtAll
  refine wpAny_bind (wpAny_bind (wpAny_specialOf ht.typeIs slot_tuple_iter.lookup (wpAny_pure ?_)))
  simp only [Bool.false_eq_true, if_false]
  refine wpAny_bind (wpAny_holding (iter_tuple ht (wpAny_bind (wpAny_holding (draw_tuple hlt i 0 _ _ ⟨_, Heap.get?_push_size _ rfl, rfl, rfl⟩ (ht.push _) (by omega) fun h1 it1 sb1 => ?_)))))
  have t1 : IsTup h1 t items := (ht.push _).extBut sb1.extBut hlt
  rw [Nat.zero_add] at it1
  have hI : s.heap.objs.size < h1.objs.size := by obtain ⟨oi, hoi, _⟩ := id it1; exact Heap.lt_size hoi
  have hT : t < h1.objs.size := by obtain ⟨ol, hol, _⟩ := id t1; exact Heap.lt_size hol
  rw [List.drop_zero]
  have hfl : (items.toList.take i).length = i := by rw [List.length_take, Array.length_toList]; omega
  rw [if_neg (show ¬ ((items.toList.take i).length < i) by rw [hfl]; omega)]
  refine wpAny_bind (wpAny_holding (PySem.W.kun_collect (s := { s with heap := h1 }) (T := "tuple_iterator") (.inr (.inr (.inr rfl))) (Walks.tuple (A := A.in1) hh s.heap.objs.size t hlt items) (fun j u st => st.1.typeIs) (k := i) (by omega) ⟨it1, t1⟩ hI hT (fun h2 tk hk => ?_) hz))
  exact star_fin hi hn hz (hQ h2 tk fun b o e => hk b o (Nat.ne_of_lt (Heap.lt_size e)) (sb1.extBut b o (Nat.ne_of_lt (Heap.lt_size e)) (Heap.get?_push_of_some _ e)))
theorem star_list {t : Addr} {items : Array Value} {n i : Nat} {Q : List Value → Shared → Prop} (hh : A.handled = none) (ht : s.heap.IsList t items) (hi : i < n) (hn : n ≤ items.size + 1) (hz : items.size ≤ sizeLine)
    (hQ : ∀ (h' : Heap) (tk : Nat), (∀ b o, s.heap.get? b = some o → h'.get? b = some o) → Q (items.toList.take i ++ [.ref h'.objs.size] ++ (items.toList.drop i).drop (items.size + 1 - n)) { s with heap := h'.push { cls := .type "list", data := .seq ((items.toList.drop i).take (items.size + 1 - n)).toArray }, toks := tk }) :
    wpAny (model prog w) A (unpackItems (.ref t) n (some i)) Q E s := by
  have lt : t < s.heap.objs.size := by obtain ⟨o, ho, _⟩ := ht; exact Heap.lt_size ho
  have hlt : t ≠ s.heap.objs.size := Nat.ne_of_lt lt
  unfold unpackItems notIterableAtAll
  refine wpAny_bind (wpAny_bind (wpAny_specialOf ht.typeIs slot_list_iter.lookup (wpAny_pure ?_)))
  simp only [Bool.false_eq_true, if_false]
  refine wpAny_bind (wpAny_holding (wpAny_pyIter_list ht (wpAny_bind (wpAny_holding (PySem.W.kun_draw hlt i 0 _ _ ⟨_, Heap.get?_push_size _ rfl, rfl, rfl⟩ (ht.push _) (by omega) fun h1 it1 sb1 => ?_)))))
  have t1 : h1.IsList t items := (ht.push _).extBut sb1.extBut hlt
  rw [Nat.zero_add] at it1
  have hI : s.heap.objs.size < h1.objs.size := by obtain ⟨oi, hoi, _⟩ := id it1; exact Heap.lt_size hoi
  have hT : t < h1.objs.size := by obtain ⟨ol, hol, _⟩ := id t1; exact Heap.lt_size hol
  rw [List.drop_zero]
  have hfl : (items.toList.take i).length = i := by rw [List.length_take, Array.length_toList]; omega
  rw [if_neg (show ¬ ((items.toList.take i).length < i) by rw [hfl]; omega)]
  refine wpAny_bind (wpAny_holding (PySem.W.kun_collect (s := { s with heap := h1 }) (T := "list_iterator") (.inr (.inr (.inl rfl))) (Walks.list (A := A.in1) hh s.heap.objs.size t hlt items) (fun j u st => st.1.typeIs) (k := i) (by omega) ⟨it1, t1⟩ hI hT (fun h2 tk hk => ?_) hz))
  exact star_fin hi hn hz (hQ h2 tk fun b o e => hk b o (Nat.ne_of_lt (Heap.lt_size e)) (sb1.extBut b o (Nat.ne_of_lt (Heap.lt_size e)) (Heap.get?_push_of_some _ e)))
end
section
variable {X : Cx} {a b c t : Expr} {es : List Expr} {x : Str} {pos : Pos} {vs : List Nat} {g : GT} {gs : GTs}
def starL {α : Type} (n i : Nat) (mk : List α → α) (xs : List α) : List α := xs.take i ++ [mk ((xs.drop i).take (xs.length + 1 - n))] ++ (xs.drop i).drop (xs.length + 1 - n)
def gStarV (K : PySem.W.Frag) (n i : Nat) (t : TGs) : TG := fun v σ H Q => ∃ a xs, v = .ref a ∧ (SqT K H a xs ∨ SqL K H a xs) ∧ i < n ∧ n ≤ xs.length + 1 ∧ ∀ p, H p = none → t (starL n i (fun _ => .ref p) xs) σ (upd H p (.lst ((xs.drop i).take (xs.length + 1 - n)))) Q
theorem pg_star {k : Nat} {t : TGs} {n i : Nat} (hc : X.calm = true) (h : PGs X es t)
    (hn : (assignEach es X.env).length = n := by rfl) (hst : (assignEach es X.env).findIdx? (·.1) = some i := by rfl) : PG X (.Tuple es k pos) (gStarV X.K n i t) := by
  refine ⟨fun pins s σ H v u Q I r hw => ?_⟩
  obtain ⟨a, xs, e1, hq, hi, hl, hw⟩ := hw
  subst e1
  cases r
  have fin : ∀ (its : List Value) (h' : Heap) (tk : Nat), Vals xs its → xs.length ≤ sizeLine → (∀ b o, s.heap.get? b = some o → h'.get? b = some o) →
      wpAny (model X.prog X.w) X.A (assignInOrder ((assignEach es X.env).map (·.2)) (its.take i ++ [.ref h'.objs.size] ++ (its.drop i).drop (its.length + 1 - n))) (fun _ s' => ∃ σ' H', L2.Inv X pins σ' H' s' ∧ Q σ' H') X.xe { s with heap := h'.push { cls := .type "list", data := .seq ((its.drop i).take (its.length + 1 - n)).toArray }, toks := tk } := by
    intro its h' tk rv hz hk
    have I1 : L2.Inv X pins σ H { s with heap := h', toks := tk } := I.kept hk
    have le := rv.length
    have I2 : L2.Inv X pins σ (upd H h'.objs.size (.lst ((xs.drop i).take (xs.length + 1 - n)))) { s with heap := h'.push { cls := .type "list", data := .seq ((its.drop i).take (its.length + 1 - n)).toArray }, toks := tk } := by
      refine I1.laid (t' := tk) (fun b ob q => Heap.get?_push_of_some _ q) (Nat.le_refl _) ?_
      refine ⟨by rw [List.length_take, List.length_drop]; omega, _, 0, ?_, Heap.get?_push_size _ rfl⟩
      rw [le]
      exact (rv.drop i).take _
    refine h.run pins _ σ _ _ _ Q I2 ?_ (hw _ (I1.hok.fresh (Nat.le_refl _)))
    unfold starL
    rw [le]
    exact ((rv.take i).append (.cons (show L2.RelV (V.ref h'.objs.size) (.ref h'.objs.size) from rfl) .nil)).append ((rv.drop i).drop _)
  rw [assign_Tuple]
  refine wpAny_bind (wpAny_standAt ?_)
  unfold unpack
  rw [hn, hst]
  rcases hq with hq | hq
  · obtain ⟨its, rv, ht, hz⟩ := I.tuple hq
    have le := rv.length
    refine wpAny_bind (wpAny_holding (star_tuple (I.ok.hd hc) ht hi (by rw [List.size_toArray]; omega) (by rw [List.size_toArray]; omega) fun h' tk hk => ?_))
    have := fin its h' tk rv hz hk
    simpa using this
  · obtain ⟨its, rv, ht, hz⟩ := I.list hq
    have le := rv.length
    refine wpAny_bind (wpAny_holding (star_list (I.ok.hd hc) ht.isList hi (by rw [List.size_toArray]; omega) (by rw [List.size_toArray]; omega) fun h' tk hk => ?_))
    have := fin its h' tk rv hz hk
    simpa using this
def seqD : D → Option (List D)
  | .tuple ds => some ds
  | .list ds => some ds
  | _ => none
def gStar (n i : Nat) (gs : GTs) : GT := fun d r => match seqD d with
  | some ds => if i < n ∧ n ≤ ds.length + 1 then gs (starL n i .list ds) r else none
  | none => none
theorem dg_star {k : Nat} {n i : Nat} (hc : X.calm = true) (h : DGs X es vs gs) (hn : (assignEach es X.env).length = n := by rfl) (hst : (assignEach es X.env).findIdx? (·.1) = some i := by rfl) : DG X (.Tuple es k pos) vs (gStar n i gs) := fun e =>
  PG.imp (pg_star hc (h e) hn hst) fun v s H Q ⟨F, r, d, r', k, rp, eg, hQ⟩ => by
    unfold gStar at eg
    split at eg
    · rename_i ds ed
      split at eg
      · rename_i hl
        have fin : ∀ (a : Addr) (xs : List V), RpA X.K F xs ds → (SqT X.K H a xs ∨ SqL X.K H a xs) → gStarV X.K n i (TGts X.K e vs gs) (.ref a) s H Q := by
          intro a xs ra hq
          have le := ra.length
          refine ⟨a, xs, rfl, hq, hl.1, by omega, fun p hp => ?_⟩
          have fr := k.free hp
          have k1 := k.lay (o := .lst ((xs.drop i).take (xs.length + 1 - n))) hp
          have sb : Sub F (upd F p (.lst ((xs.drop i).take (xs.length + 1 - n)))) := Sub.new fr.1
          refine ⟨_, r, _, r', k1, ?_, eg, fun s' F' H' k' q' w' => hQ s' F' H' k' (sb.trans q') w'⟩
          have rb := ra.mono sb
          unfold starL
          rw [← le]
          exact ((rb.take i).append (.cons (.lst (.inl upd_same) ((rb.drop i).take _)) .nil)).append ((rb.drop i).drop _)
        cases rp with
        | tup g1 g2 => cases ed; exact fin _ _ g2 (.inl (k.sub.sqT g1.sqT))
        | lst g1 g2 => cases ed; exact fin _ _ g2 (.inr (.inl (k.sub.rd g1)))
        | _ => cases ed
      · cases eg
    · cases eg
theorem dgs_star {p : Pos} (h1 : DG X t vs g) (h2 : DGs X es vs gs) (hs : (assignEach (.Starred t p :: es) X.env).map (·.2) = assign t X.env :: (assignEach es X.env).map (·.2) := by rfl) : DGs X (.Starred t p :: es) vs (gCs g gs) := fun e => by
  refine ⟨fun pins s σ H us ws Q I r ⟨F, r0, d, r', k, rp, eg, hQ⟩ => ?_⟩
  cases rp with
  | nil => cases eg
  | cons r1 r2 =>
    simp only [gCs] at eg
    split at eg
    · rename_i r1' e1
      cases r with
      | cons rv rr =>
        rw [hs]
        refine assignInOrder_cons (thn ((h1 e).run pins s σ H _ _ _ I rv ⟨F, r0, _, r1', k, r1, e1, fun s1 F1 H1 k1 q1 w1 => (⟨F1, r1', _, r', k1, r2.mono q1, eg, fun s2 F2 H2 k2 q2 w2 => hQ s2 F2 H2 k2 (q1.trans q2) (w2.trans w1)⟩ : TGts X.K e vs gs _ s1 H1 Q)⟩) fun _ s1 ⟨σ1, H1, I1, q1⟩ => ?_)
        exact (h2 e).run pins s1 σ1 H1 _ _ Q I1 rr q1
    · cases eg
def sAsg (m : ME) (g : GT) : MS := fun r O => m r fun x r1 => onP (hold r1 x.tmp) fun qa qb => onS (g qa qb) O.nx
theorem ds_asg {ma : ME} (ha : DE X a ma) (hg : DG X b vs g) (hs : swapsWithSole [b] a pos.line X.env = pure false := by rfl) (hw : swappedStores [b] a X.env = pure none := by rfl)
    (h1 : (assignEach [b] X.env).map (·.2) = [assign b X.env] := by rfl) : DS X (.Assign [b] a pos) (sAsg ma g) := fun e =>
  PS.imp (ps_asg (ha.tmp e) (hg e) hs hw h1) fun D s H ⟨F, r, k, O, hm, h⟩ => ⟨F, r, k, fun x r1 => onP (hold r1 x) fun qa qb => onS (g qa qb) O.nx, hm, fun x r1 v F1 H1 hx k1 q t => by
    obtain ⟨d, r2, eh, hx2⟩ := onP.ex hx
    obtain ⟨r3, eg, hp⟩ := onS.ex hx2
    obtain ⟨F2, k2, q2, rp⟩ := t.hold k1 eh
    exact ⟨F2, r2, d, r3, k2, rp, eg, fun s' F' H' k' q' w' => h.nx r3 s' F' H' hp k' ((q.trans q2).trans q')⟩⟩
end
end DL
namespace DL
open PySem L2 PyProof.Rows
section
variable {X : Cx} {elt tg iter c : Expr} {ifs : List Expr} {scope : Scope} {own : List (Str × Nat)} {pos spos py : Pos} {mi : MI} {g : GT} {tt : MT} {te : ME} {vs : List Nat} {y : Str} {i : Nat}
/-- name = [.. for ..] -/
theorem ds_setLc (hc : X.calm = true) (hN : X.N.Nodup) (hy : X.N[i]? = some y) (hyl : X.env.scope.names.lookup y = some .local) (hk : X.env.scope.kind = .function) (hi : DI X tg iter mi) (ok : BlkOk X.N X.env.scope scope own)
    (hg : ∀ (s : Shared) (H : Hp) (C : Addr) (cl : List (Str × Addr)) (fp : List Addr), DG (X.blk s H scope (compEnvC scope cl C X.env) fp) tg (own.map (·.2)) g) (ht : ∀ (s : Shared) (H : Hp) (C : Addr) (cl : List (Str × Addr)) (fp : List Addr), DTs (X.blk s H scope (compEnvC scope cl C X.env) fp) ifs tt)
    (he : ∀ (s : Shared) (H : Hp) (C : Addr) (cl : List (Str × Addr)) (fp : List Addr), DE (X.blk s H scope (compEnvC scope cl C X.env) fp) elt te) (hs : ∀ x, foldedSetIterable iter X.env x = pure x := by intro _; rfl)
    (hl : (py.line == pos.line) = true := by rfl) (ha : (scope.names.any fun (n, k) => n == y && (k == .local || k == .cell)) = false := by rfl) :
    DS X (.Assign [.Name y py] (.ListComp elt [⟨tg, iter, ifs, 0⟩] scope pos) spos) (sSet i (mLc (own.map (·.2)) mi g tt te)) := fun e => by
  refine PS.imp (ps_setLc (g := fun v s H Q => ∃ e', TGt X.K e' (own.map (·.2)) g v s H Q) (tt := fun s H Q => ∃ e', TB X.K e' tt s H Q) (te := fun s H Q => ∃ e', Tt X.K e' (mTmp te) s H Q) hc hN hy hyl (sw_true hk hyl hl ha) (hi e) ok
    (fun s H C cl fp => ⟨fun pins s σ H v u Q I r ⟨e', q⟩ => (hg _ _ C cl fp e').run pins s σ H v u Q I r q⟩) (fun s H C cl fp => ⟨fun pins s σ H Q I ⟨e', q⟩ => (ht _ _ C cl fp e').run pins s σ H Q I q⟩) (fun s H C cl fp => ⟨fun pins s σ H Q I ⟨e', q⟩ => ((he _ _ C cl fp).tmp e').run pins s σ H Q I q⟩) hs) ?_
  rintro D s H ⟨F, r, k, O, hm, h⟩
  refine lc_read rfl ⟨F, r, k, _, hm, ?_⟩ _ _ _ (fun e' _ _ _ _ q => ⟨e', q⟩) (fun e' _ _ _ q => ⟨e', q⟩) fun e' _ _ _ q => ⟨e', q⟩
  intro x r1 v F1 H1 hx k1 q t
  obtain ⟨r2, ep, hp⟩ := onS.ex hx
  obtain ⟨F2, k2, q2⟩ := t.put k1 ep
  exact h.nx r2 _ F2 H1 hp k2 (q.trans q2)
end
section
variable {X : Cx} {a b : Expr} {ma mb : ME} {pos pos' p : Pos} {x : Str} {i : Nat}
def itOf : D → Option Int
  | .int i => some i
  | _ => none
theorem itOf_of {d : D} {i : Int} (h : itOf d = some i) : d = .int i := by
  unfold itOf at h
  split at h
  · cases h; rfl
  · cases h
/-- the items of a list, one by one -/
def strictL (l : List D) (K : List D → Prop) : Prop := match l with
  | [] => K []
  | d :: l => strictL l fun l' => K (d :: l')
theorem strictL.ex : ∀ {l : List D} {K : List D → Prop}, strictL l K → K l
  | [], _, h => h
  | _ :: l, K, h => strictL.ex (l := l) h
def KPut (i : Nat) (d : D) (O : Out) (y : R) (r : Rho) : Prop := onO (look r y) fun z => onO (itOf z) fun k => onP (bxL r i) fun ba bb => onO (ixN bb.length k) fun j => strictL (bb.set j d) fun l => strict (r.set i (some (.box ba (.L l)))) O.nx
theorem KPut.ex {i : Nat} {d : D} {O : Out} {y : R} {r : Rho} (h : KPut i d O y r) : ∃ k bo ds j, look r y = some (.int k) ∧ r[i]? = some (some (.box bo (.L ds))) ∧ ixN ds.length k = some j ∧ O.nx (r.set i (some (.box bo (.L (ds.set j d))))) := by
  obtain ⟨z, e1, h1⟩ := onO.ex h
  obtain ⟨k, e2, h2⟩ := onO.ex h1
  obtain ⟨ba, bb, e3, h3⟩ := onP.ex h2
  obtain ⟨j, e4, h4⟩ := onO.ex h3
  cases itOf_of e2
  exact ⟨k, ba, bb, j, e1, bxL_of e3, e4, h4.ex.ex⟩
def sPut (i : Nat) (ma mb : ME) : MS := fun r O => ma r fun x r1 => onP (hold r1 x.tmp) fun qa qb => rqB (isL qb i) (mb qb fun y r3 => KPut i qa O y.tmp r3)
theorem ds_put (hN : X.N[i]? = some x) (hv : Vis X.env.scope x) (ha : DE X a ma) (hb : DE X b mb) (hd : (x == ("__debug__" : Str)) = false := by decide) (hcd : (x == ("__classdict__" : Str)) = false := by decide)
    (hsub : ∀ v, assign (.Subscript (.Name x p) b pos') X.env v = (do
      let ov ← holding [v] (eval (.Name x p) X.env)
      let iv ← holding [v, ov] (eval b X.env)
      standAt pos'
      holding [v, ov, iv] (setItem ov iv v)
      release [v, ov, iv] []) := by intro _; rfl)
    (hs : swapsWithSole [.Subscript (.Name x p) b pos'] a pos.line X.env = pure false := by rfl) (hw : swappedStores [.Subscript (.Name x p) b pos'] a X.env = pure none := by rfl)
    (h1 : (assignEach [.Subscript (.Name x p) b pos'] X.env).map (·.2) = [assign (.Subscript (.Name x p) b pos') X.env] := by rfl) : DS X (.Assign [.Subscript (.Name x p) b pos'] a pos) (sPut i ma mb) := fun e =>
  PS.imp (ps_asg (ha.tmp e) (pg_sub (pe_var hN hv hd hcd) (hb.tmp e) set_list hsub) hs hw h1) fun D s H ⟨F, r, k, O, hm, h⟩ => ⟨F, r, k, fun x r1 => onP (hold r1 x) fun qa qb => rqB (isL qb i) (mb qb fun y r3 => KPut i qa O y.tmp r3), hm, fun x r1 v F1 H1 hx k1 q t => by
    obtain ⟨d, r2, eh, hx2⟩ := onP.ex hx
    obtain ⟨hl, hp⟩ := rqB.ex hx2
    obtain ⟨F2, k2, q2, rp⟩ := t.hold k1 eh
    obtain ⟨bo, ds, hbx⟩ := isL_of hl
    obtain ⟨pp, o, g1, g2, g3, g4⟩ := k2.box i bo _ hbx
    refine ⟨.ref pp, g1, F2, r2, k2, fun y r3 => KPut i d O y r3, hp, ?_⟩
    intro y r3 v3 F3 H3 hy k3 q3 t3
    obtain ⟨k, bo', ds', j, el, er, ej, hn⟩ := KPut.ex hy
    obtain ⟨pp', o', w1, w2, w3, w4⟩ := k3.box i bo' _ er
    rw [g1] at w1; cases w1
    cases w3 with | L w3 =>
    have ei := (t3.look k3 el).int
    refine ⟨pp, _, k, j, rfl, ei, w2, by rw [w3.length]; exact ej, ?_⟩
    exact h.nx _ s F3 _ hn (k3.write er g1 (.L (w3.set (rp.mono q3) j))) ((q.trans q2).trans q3)⟩
def IpD (X : Cx) (op : Operator) (f : F2) : Prop := ∃ t : TIp, PIp X op t ∧ ∀ (F H : Hp) (v1 v2 : V) (d1 d2 z : D) (Q : VK), Lk X.K F H v1 d1 → Lk X.K F H v2 d2 → f d1 d2 = some (.val z) → (∀ v, Rp X.K F v z → Q v H) → t v1 v2 H Q
def fISub : F2
  | .int i, .int j => some (.val (.int (i - j)))
  | _, _ => none
theorem ipd_sub : IpD X .Sub fISub := by
  refine ⟨_, ip_sub, fun F H v1 v2 d1 d2 z Q l1 l2 ef w => ?_⟩
  unfold fISub at ef
  split at ef
  · cases ef; exact ⟨_, _, l1.int, l2.int, w _ (.int _)⟩
  · cases ef
/-- an operation with a datum as its answer -/
structure IpK where
  f : F2
  k : D → D → (D → Prop) → Prop
  ok : ∀ d1 d2 K, k d1 d2 K → ∃ z, f d1 d2 = some (.val z) ∧ K z
def kISub : D → D → (D → Prop) → Prop
  | .int i, .int j, K => K (.int (i - j))
  | _, _, _ => False
def pSub : IpK := ⟨fISub, kISub, fun d1 d2 K h => by
  cases d1 <;> cases d2 <;> first
    | exact h.elim
    | exact ⟨_, rfl, h⟩⟩
theorem get_list : PGet X (rIxL X.K) := by
  rintro pins s σ H _ _ v u Q I rx ry ⟨p, xs, i, z, rfl, rfl, hq, he, q⟩
  cases rx
  obtain ⟨t, rfl⟩ := ry
  obtain ⟨its, r, pl, hz⟩ := I.list hq
  obtain ⟨j, h1, h2, h3, h4, h5⟩ := atI_get he
  obtain ⟨w, ew, rw'⟩ := r.get h2
  have hl := r.length
  have hn := line63
  have fin : EP X pins σ Q w s := ⟨z, H, I, rw', q⟩
  by_cases h0 : 0 ≤ i
  · have hj : i.toNat = j := by
      rw [seqIndex_of h0 h5] at h1
      exact Option.some.inj h1
    exact wpAny_getItem_list pl.isList h0 (by omega) (by rw [hj]; simpa using ew) fin
  · have hj : (i + (its.toArray.size : Int)).toNat = j := by
      rw [seqIndex_neg (by omega) h4] at h1
      rw [List.size_toArray, ← hl]
      exact Option.some.inj h1
    exact wpAny_getItem_list_neg pl.isList (by omega) (by rw [List.size_toArray] <;> omega) (by omega) (by rw [hj]; simpa using ew) fin
/-- x[a] op= b, x a box -/
def KAugS2 (i : Nat) (o : IpK) (k : Int) (d0 : D) (O : Out) (y : R) (r : Rho) : Prop := onO (look r y) fun d1 => o.k d0 d1 fun z => onP (bxL r i) fun ba bb => onO (ixN bb.length k) fun j => strictL (bb.set j z) fun l => strict (r.set i (some (.box ba (.L l)))) O.nx
theorem KAugS2.ex {i : Nat} {o : IpK} {k : Int} {d0 : D} {O : Out} {y : R} {r : Rho} (h : KAugS2 i o k d0 O y r) : ∃ d1 z ds' j bo', look r y = some d1 ∧ o.f d0 d1 = some (.val z) ∧ r[i]? = some (some (.box bo' (.L ds'))) ∧ ixN ds'.length k = some j ∧ O.nx (r.set i (some (.box bo' (.L (ds'.set j z))))) := by
  obtain ⟨d1, e1, h1⟩ := onO.ex h
  obtain ⟨z, e2, h2⟩ := o.ok _ _ _ h1
  obtain ⟨ba, bb, e3, h3⟩ := onP.ex h2
  obtain ⟨j, e4, h4⟩ := onO.ex h3
  exact ⟨d1, z, bb, j, ba, e1, e2, bxL_of e3, e4, h4.ex.ex⟩
def KAugS1 (i : Nat) (o : IpK) (mb : ME) (O : Out) (x : R) (r : Rho) : Prop := onO (look r x) fun w => onO (itOf w) fun k => onP (bxL r i) fun ba bb => onO (atI bb k) fun d0 => mb r fun y r2 => KAugS2 i o k d0 O y.tmp r2
theorem KAugS1.ex {i : Nat} {o : IpK} {mb : ME} {O : Out} {x : R} {r : Rho} (h : KAugS1 i o mb O x r) : ∃ k bo ds d0, look r x = some (.int k) ∧ r[i]? = some (some (.box bo (.L ds))) ∧ atI ds k = some d0 ∧ mb r fun y r2 => KAugS2 i o k d0 O y.tmp r2 := by
  obtain ⟨w, e1, h1⟩ := onO.ex h
  obtain ⟨k, e2, h2⟩ := onO.ex h1
  obtain ⟨ba, bb, e3, h3⟩ := onP.ex h2
  obtain ⟨d0, e4, h4⟩ := onO.ex h3
  cases itOf_of e2
  exact ⟨k, ba, bb, d0, e1, bxL_of e3, e4, h4⟩
def sAugS (i : Nat) (o : IpK) (ma mb : ME) : MS := fun r O => rqB (isL r i) (ma r fun x r1 => KAugS1 i o mb O x.tmp r1)
theorem ds_augS {op : Operator} {o : IpK} (hN : X.N[i]? = some x) (hv : Vis X.env.scope x) (ho : IpD X op o.f) (ha : DE X a ma) (hb : DE X b mb) (hd : (x == ("__debug__" : Str)) = false := by decide) (hcd : (x == ("__classdict__" : Str)) = false := by decide)
    (hs : ∀ ov iv new, augStore a ov iv new = (do holding [new, ov, iv] (setItem ov iv new); release [new, ov, iv] []; pure .next) := by intros; rfl) : DS X (.AugAssign (.Subscript (.Name x p) a pos') op b pos) (sAugS i o ma mb) := fun e => by
  obtain ⟨t, ht, hq⟩ := ho
  refine PS.imp (ps_augS (pe_var hN hv hd hcd) (ha.tmp e) get_list (hb.tmp e) ht set_list hs) fun D s H ⟨F, r, k, O, hx0, h⟩ => ?_
  obtain ⟨hl, hm⟩ := rqB.ex hx0
  obtain ⟨bo, ds, hbx⟩ := isL_of hl
  obtain ⟨pp, ob, g1, g2, g3, g4⟩ := k.box i bo _ hbx
  refine ⟨.ref pp, g1, F, r, k, fun x r1 => KAugS1 i o mb O x r1, hm, ?_⟩
  intro y r1 v1 F1 H1 hx1 k1 q1 t1
  obtain ⟨kk, bo1, ds1, d0, el, er, ea, hp⟩ := KAugS1.ex hx1
  obtain ⟨p1, o1, w1, w2, w3, w4⟩ := k1.box i bo1 _ er
  rw [g1] at w1; cases w1
  cases w3 with | L w3 =>
  obtain ⟨v0, ev, rv0⟩ := w3.at ea
  have ei := (t1.look k1 el).int
  refine ⟨pp, _, kk, v0, rfl, ei, .inl (.inl w2), ev, F1, r1, k1, fun y r2 => KAugS2 i o kk d0 O y r2, hp, ?_⟩
  intro y2 r2 v2 F2 H2 hx2 k2 q2 t2
  obtain ⟨d1, z, ds2, j, bo2, el2, ef, er2, ej, hn⟩ := KAugS2.ex hx2
  obtain ⟨p2, o2, u1, u2, u3, u4⟩ := k2.box i bo2 _ er2
  rw [g1] at u1; cases u1
  cases u3 with | L u3 =>
  refine hq F2 H2 v0 v2 d0 d1 z _ (.rp (rv0.mono q2)) (t2.look k2 el2) ef fun v rv => ⟨pp, _, kk, j, rfl, ei, u2, by rw [u3.length]; exact ej, ?_⟩
  exact h.nx _ s F2 _ hn (k2.write er2 g1 (.L (u3.set rv j))) (q1.trans q2)
end
end DL
namespace DL
open PySem L2 PyProof.Rows
mutual
/-- u is the datum d, all of it in K -/
def rpB (K : Fg) : Nat → Value → D → Bool
  | 0, _, _ => false
  | n + 1, u, d => match d, u with
    | .none, .none => true
    | .bool a, .bool b => a == b
    | .int a, .int b _ => a == b
    | .str a, .str b _ => a == b
    | .tuple ds, .ref a => match K.lookup a with
      | some ⟨.type "tuple", none, .seq its _, _⟩ => (decide (its.size ≤ sizeLine) && ds.all noInt) && rpBs K n its.toList ds
      | _ => false
    | _, _ => false
def rpBs (K : Fg) : Nat → List Value → List D → Bool
  | 0, _, _ => false
  | n + 1, us, ds => match us, ds with
    | [], [] => true
    | u :: us, d :: ds => rpB K n u d && rpBs K n us ds
    | _, _ => false
end
theorem rpB_ok (K : Fg) : ∀ n, (∀ u d, rpB K n u d = true → ∃ v, RelV v u ∧ ∀ F, Rp K F v d) ∧ (∀ us ds, rpBs K n us ds = true → ∃ vs, Vals vs us ∧ ∀ F, RpA K F vs ds)
  | 0 => ⟨fun u d h => (by unfold rpB at h; cases h), fun u d h => (by unfold rpBs at h; cases h)⟩
  | n + 1 => by
    obtain ⟨i1, i2⟩ := rpB_ok K n
    refine ⟨fun u d h => ?_, fun us ds h => ?_⟩
    · unfold rpB at h
      split at h
      · exact ⟨.non, rfl, fun F => .non⟩
      · rename_i a b; rw [beq_iff_eq.mp h]; exact ⟨.bl b, rfl, fun F => .bl _⟩
      · rename_i a b t; rw [beq_iff_eq.mp h]; exact ⟨.int b, ⟨t, rfl⟩, fun F => .int _⟩
      · rename_i a b t; rw [eq_of_beq h]; exact ⟨.str b, ⟨t, rfl⟩, fun F => .str _⟩
      · rename_i ds a
        split at h
        · rename_i its nn sl hl
          rw [Bool.and_eq_true, Bool.and_eq_true] at h
          obtain ⟨vs, r, w⟩ := i2 _ _ h.2
          exact ⟨.ref a, rfl, fun F => .tup (.inr ⟨.inr ⟨_, its, nn, hl, rfl, rfl, rfl, of_decide_eq_true h.1.1, r⟩, h.1.2⟩) (w F)⟩
        · cases h
      · cases h
    · unfold rpBs at h
      split at h
      · exact ⟨[], .nil, fun F => .nil⟩
      · rw [Bool.and_eq_true] at h
        obtain ⟨v, r1, w1⟩ := i1 _ _ h.1
        obtain ⟨vs, r2, w2⟩ := i2 _ _ h.2
        exact ⟨v :: vs, .cons r1 r2, fun F => .cons (w1 F) (w2 F)⟩
      · cases h
section
variable {X : Cx} {a b c : Expr} {ma mb mc : ME} {pos p p' apos : Pos} {x : Str} {i : Nat}
theorem de_glob {u : Value} {d : D} (n : Nat) (hg : Gl X x) (hm : X.mg x = some u) (hr : rpB X.K n u d = true) (hd : (x == ("__debug__" : Str)) = false := by decide) : DE X (.Name x pos) (mVal d) := by
  obtain ⟨v, r, w⟩ := (rpB_ok X.K n).1 u d hr
  exact de_const (pe_glob hg hm r hd) w
abbrev Tab := List (Str × Str)
def tLook : Tab → Str → Option Str
  | [], _ => none
  | p :: r, x => if p.1 = x then some p.2 else tLook r x
def tabB (P : Params) : List DictEntry → Tab → Bool
  | [], [] => true
  | ⟨h, .str a _, .str b _⟩ :: r, (x, y) :: t => a == x && b == y && h == PyData.keyHash P x && tabB P r t
  | _, _ => false
theorem tab_lit {P : Params} : ∀ {es : List DictEntry} {t : Tab}, tabB P es t = true → PySem.W.KeysLit P es ∧ ∀ x, (es.find? fun e => Value.isStrOf x e.key).map (·.val) = none ∧ tLook t x = none ∨ ∃ y k, (es.find? fun e => Value.isStrOf x e.key).map (·.val) = some (.str y k) ∧ tLook t x = some y
  | [], [], _ => ⟨trivial, fun x => .inl ⟨rfl, rfl⟩⟩
  | [], _ :: _, h => by unfold tabB at h; cases h
  | e :: es, [], h => by unfold tabB at h; simp at h
  | e :: es, (x0, y0) :: t, h => by
    unfold tabB at h
    split at h
    · rename_i z1 z2; cases z2
    · rename_i h0 a0 k0 b0 k1 r1 x1 y1 t1 e1 e2
      injection e1 with q1 q2
      injection e2 with q3 q4
      injection q3 with q5 q6
      subst q1 q2 q4 q5 q6
      simp only [Bool.and_eq_true, beq_iff_eq] at h
      obtain ⟨⟨⟨g1, g2⟩, g3⟩, g4⟩ := h
      subst g1 g2
      obtain ⟨i1, i2⟩ := tab_lit g4
      refine ⟨⟨⟨_, _, rfl, g3⟩, i1⟩, fun x => ?_⟩
      by_cases q : a0 = x
      · subst q
        refine .inr ⟨b0, k1, ?_, by simp [tLook]⟩
        simp [List.find?_cons, Value.isStrOf]
      · rcases i2 x with ⟨j1, j2⟩ | ⟨y, k, j1, j2⟩
        · refine .inl ⟨?_, by simp [tLook, q, j2]⟩
          rw [List.find?_cons, show Value.isStrOf x (Value.str a0 k0) = false from by simp [Value.isStrOf, q]]
          exact j1
        · refine .inr ⟨y, k, ?_, by simp [tLook, q, j2]⟩
          rw [List.find?_cons, show Value.isStrOf x (Value.str a0 k0) = false from by simp [Value.isStrOf, q]]
          exact j1
    · cases h
/-- at a the dict t of the module -/
structure KTab (X : Cx) (a : Addr) (t : Tab) : Prop where
  ex : ∃ es n, X.K.lookup a = some ⟨.type "dict", none, .dict es n, #[]⟩ ∧ tabB X.w.params es.toList t = true
  sys : (a == sysModules) = false
theorem KTab.of {ad : Addr} {t : Tab} {es : Array DictEntry} {n : Nat} (hl : X.K.lookup ad = some ⟨.type "dict", none, .dict es n, #[]⟩) (hb : tabB X.w.params es.toList t = true) (hs : (ad == sysModules) = false) : KTab X ad t := ⟨⟨es, n, hl, hb⟩, hs⟩
theorem KTab.map {ad : Addr} {t : Tab} {pins : List (Addr × Obj)} {σ : L2.St} {H : Hp} {s : Shared} (k : KTab X ad t) (I : L2.Inv X pins σ H s) : ∃ f : Str → Option Value, s.heap.MapOf (strKind X.prog X.w) ad f ∧ ∀ x, f x = none ∧ tLook t x = none ∨ ∃ y k, f x = some (.str y k) ∧ tLook t x = some y := by
  obtain ⟨es, n, hl, hb⟩ := k.ex
  obtain ⟨h1, h2⟩ := tab_lit hb
  refine ⟨_, PySem.W.mapOf_K (prog := X.prog) (w := X.w) I.kIn hl h1, fun x => ?_⟩
  obtain ⟨l⟩ := es
  have := h2 x
  unfold findBy
  rw [List.find?_toArray]
  exact this
theorem ix_ktab {ad : Addr} {t : Tab} (k : KTab X ad t) : IxR X (fun x y H Q => ∃ z w, x = .ref ad ∧ y = .str z ∧ tLook t z = some w ∧ Q (.str w) H) := by
  rintro value slice pins s σ H _ _ v u Q I rx ry ⟨z, w, rfl, rfl, hl, q⟩ hs
  obtain rfl : v = Value.ref ad := rx
  obtain ⟨tk, rfl⟩ := ry
  obtain ⟨f, hm, hf⟩ := k.map I
  rcases hf z with ⟨_, g⟩ | ⟨y, kk, g1, g2⟩
  · rw [hl] at g; cases g
  · rw [hl] at g2; cases g2
    exact tail_any hm.typeIs slot_dict_getitem.lookup (wpAny_getItem_of (strKind_is X.prog X.w z tk) hm g1 ⟨.str w, H, I.tok _, ⟨_, rfl⟩, q⟩) hs
theorem notin_ktab {ad : Addr} {t : Tab} (k : KTab X ad t) : OpR X (compareOp .NotIn) (fun y x H Q => ∃ z, y = .str z ∧ x = .ref ad ∧ Q (.bl (!(tLook t z).isSome)) H) := by
  rintro pins s σ H _ _ v u Q I rx ry ⟨z, rfl, rfl, q⟩
  obtain rfl : u = Value.ref ad := ry
  obtain ⟨tk, rfl⟩ := rx
  obtain ⟨f, hm, hf⟩ := k.map I
  refine wpAny_notIn_of (strKind_is X.prog X.w z tk) k.sys hm ?_
  refine ⟨.bl (!(tLook t z).isSome), H, I.tok _, ?_, q⟩
  rcases hf z with ⟨g1, g2⟩ | ⟨y, kk, g1, g2⟩
  · rw [g1, g2]; rfl
  · rw [g1, g2]; rfl
def tsOf : D → Option Str
  | .str x => some x
  | _ => none
theorem tsOf_of {d : D} {x : Str} (h : tsOf d = some x) : d = .str x := by
  unfold tsOf at h
  split at h
  · cases h; rfl
  · cases h
/-- what is looked at is a text -/
def onT (r : Rho) (x : R) (K : Str → Prop) : Prop := onO (look r x) fun d => onO (tsOf d) K
theorem onT.ex {r : Rho} {x : R} {K : Str → Prop} (h : onT r x K) : ∃ z, look r x = some (.str z) ∧ K z := by
  obtain ⟨d, e1, h1⟩ := onO.ex h
  obtain ⟨z, e2, h2⟩ := onO.ex h1
  cases tsOf_of e2
  exact ⟨z, e1, h2⟩
def mKix (t : Tab) (mb : ME) : ME := fun r P => mb r fun y r1 => onT r1 y.tmp fun z => onO (tLook t z) fun w => P (.val (.str w)) r1
def mKin (neg : Bool) (t : Tab) (mb : ME) : ME := fun r P => mb r fun y r1 => onT r1 y.tmp fun z => P (.val (.bool (if neg then !(tLook t z).isSome else (tLook t z).isSome))) r1
theorem de_kix {ad : Addr} {t : Tab} (hg : Gl X x) (hm : X.mg x = some (.ref ad)) (k : KTab X ad t) (hb : DE X b mb) (hs : PlainIx b := by intro _ _; rfl) (hd : (x == ("__debug__" : Str)) = false := by decide) : DE X (.Subscript (.Name x p) b pos) (mKix t mb) := fun e =>
  PE.imp (pe_ix (ix_ktab k) (pe_glob (v := .ref ad) hg hm rfl hd) (hb.tmp e) hs) fun s H Q ⟨F, r, ko, P, hm, hP⟩ => ⟨F, r, ko, fun y r1 => onT r1 y fun z => onO (tLook t z) fun w => P (.val (.str w)) r1, hm, by
    intro y r1 v F1 H1 hx k1 q1 t1
    obtain ⟨z, el, hx2⟩ := onT.ex hx
    obtain ⟨w, et, hp⟩ := onO.ex hx2
    exact ⟨z, w, rfl, (t1.look k1 el).str, et, hP _ r1 _ F1 H1 hp k1 q1 (.val (.str w))⟩⟩
end
end DL
namespace DL
open PySem L2 PyProof.Rows
def kOf : D → Option Key
  | .int i => some (.inl i)
  | .str x => some (.inr x)
  | _ => none
theorem kOf_kD (k : Key) : kOf (kD k) = some k := by cases k <;> rfl
theorem kOf_some {d : D} {k : Key} (h : kOf d = some k) : d = kD k := by
  cases d <;> simp [kOf] at h <;> subst h <;> rfl
theorem Rp.key {K : Fg} {F : Hp} {v : V} {k : Key} (h : Rp K F v (kD k)) : v = kV k := by
  cases k with
  | inl i => cases h; rfl
  | inr i => cases h; rfl
theorem Lk.key {K : Fg} {F H : Hp} {v : V} {d : D} {k : Key} (h : Lk K F H v d) (e : kOf d = some k) : v = kV k := by
  cases kOf_some e
  cases k with
  | inl i => exact h.int
  | inr i => exact h.str
def dGet (kvs : List (D × D)) (k : Key) : Option D := (kvs.find? fun p => decide (kOf p.1 = some k)).map (·.2)
def keyed (kvs : List (D × D)) : Bool := kvs.all fun p => (kOf p.1).isSome
theorem val_get {K : Fg} {F : Hp} {k : Key} : ∀ {kvs : List (Key × V)} {ds : List (D × D)}, ds.map (·.1) = kvs.map (fun p => kD p.1) → RpA K F (kvs.map (·.2)) (ds.map (·.2)) →
    (valV kvs k = none ∧ dGet ds k = none) ∨ ∃ v d, valV kvs k = some v ∧ dGet ds k = some d ∧ Rp K F v d
  | [], [], _, _ => .inl ⟨rfl, rfl⟩
  | [], _ :: _, e, _ => by cases e
  | _ :: _, [], e, _ => by cases e
  | (k0, v0) :: kvs, (dk, dv) :: ds, e, r => by
    simp only [List.map_cons, List.cons.injEq] at e
    cases r with | cons r1 r2 =>
    obtain ⟨e1, e2⟩ := e
    simp only at e1 r1
    subst e1
    by_cases q : k0 = k
    · subst q
      exact .inr ⟨v0, dv, valV_pos rfl, by simp [dGet, List.find?_cons, kOf_kD], r1⟩
    · have := val_get (k := k) e2 r2
      rw [valV_neg (show ¬ (k0, v0).1 = k from q)]
      have hh : dGet ((kD k0, dv) :: ds) k = dGet ds k := by simp [dGet, List.find?_cons, kOf_kD, q]
      rw [hh]
      exact this
/-- a dict with plain keys, seen -/
theorem Lk.dk {K : Fg} {F H : Hp} {v : V} {ds : List (D × D)} (h : Lk K F H v (.dict ds)) (hs : Sub F H) (hk : keyed ds = true) (hn : ds ≠ []) : ∃ a kvs, v = .ref a ∧ H a = some (.dK kvs) ∧ ds.map (·.1) = kvs.map (fun p => kD p.1) ∧ RpA K F (kvs.map (·.2)) (ds.map (·.2)) := by
  have no : ∀ kvs : List (List Key × V), ds.map (·.1) = kvs.map (fun p => ktD p.1) → False := by
    intro kvs e
    cases ds with
    | nil => exact hn rfl
    | cons d ds =>
      cases kvs with
      | nil => cases e
      | cons p kvs =>
        simp only [List.map_cons, List.cons.injEq] at e
        simp only [keyed, List.all_cons, Bool.and_eq_true] at hk
        rw [e.1] at hk
        simp [ktD, kOf] at hk
  generalize hd : (PyData.dict ds : D) = d at h
  cases h with
  | rp a =>
    subst hd
    cases a with
    | dct g1 g2 g3 g4 =>
      rcases g1 with ⟨kvs, w1, w2, w3⟩ | ⟨kvs, w1, w2, w3⟩
      · subst w2 w3 g4
        exact ⟨_, kvs, rfl, hs _ _ w1, g3, g2⟩
      · subst w2 w3 g4
        exact (no kvs g3).elim
  | @mo p o m a b =>
    cases b with
    | L _ => cases hd
    | K w1 w2 => cases hd; exact ⟨p, _, rfl, a, w1, w2⟩
    | T w1 w2 => cases hd; exact (no _ w1).elim
section
variable {X : Cx} {a b c : Expr} {ma mb mc : ME} {pos p p' apos : Pos} {x : Str} {i : Nat}
theorem ix_dict (hu : X.A.units + 1 < cLine) : IxR X (fun x y H Q => ∃ a v, x = .ref a ∧ DGet H a y (some v) ∧ Q v H) := by
  rintro value slice pins s σ H _ y v u Q I rx ry ⟨a, w, rfl, hg, q⟩ hs
  obtain rfl : v = Value.ref a := rx
  exact tail_any (dict_typeIs I hg) slot_dict_getitem.lookup (d_getItem hu I hg ry fun w' s' I' r' => ⟨w, H, I', r', q⟩) hs
def fIxD : F2 := fun a b => match a with
  | .dict kvs => if keyed kvs then match kOf b with
    | some k => match dGet kvs k with
      | some d => some (.val d)
      | none => none
    | none => none
    else none
  | _ => none
def fIxA : F2 := orF fIx fIxD
theorem dGet_ne {kvs : List (D × D)} {k : Key} {d : D} (h : dGet kvs k = some d) : kvs ≠ [] := fun e => by subst e; cases h
def kIxA : D → D → (R → Prop) → Prop
  | .list ds, .int i, K => onO (atI ds i) fun d => K (.val d)
  | .tuple ds, .int i, K => onO (atI ds i) fun d => K (.val d)
  | .str x, .int i, K => Rq (x.length ≤ sizeLine) (onO (atI x.cps.toList i) fun c => K (.val (.str ⟨#[c]⟩)))
  | .dict kvs, b, K => rqB (keyed kvs) (onO (kOf b) fun k => onO (dGet kvs k) fun d => K (.val d))
  | _, _, _ => False
def oIxA : OpK := ⟨fIxA, kIxA, fun d1 d2 K h => by
  unfold kIxA at h
  split at h
  · obtain ⟨d, e, q⟩ := onO.ex h
    exact ⟨_, by simp only [fIxA, orF, fIx, e], q⟩
  · obtain ⟨d, e, q⟩ := onO.ex h
    exact ⟨_, by simp only [fIxA, orF, fIx, e], q⟩
  · obtain ⟨c, e, q⟩ := onO.ex (Rq.a h)
    exact ⟨_, by simp only [fIxA, orF, fIx, if_pos (Rq.c h), e], q⟩
  · obtain ⟨h1, h2⟩ := rqB.ex h
    obtain ⟨k, e, q⟩ := onO.ex h2
    obtain ⟨d, e2, q2⟩ := onO.ex q
    exact ⟨_, by simp only [fIxA, orF, fIx, fIxD, h1, if_true, e, e2], q2⟩
  · exact h.elim⟩
theorem de_ixA (hu : X.A.units + 1 < cLine) (ha : DE X a ma) (hb : DE X b mb) (hs : PlainIx b := by intro _ _; rfl) : DE X (.Subscript a b pos) (mOp oIxA ma mb) := fun e =>
  PE.imp (pe_ix (IxR.or (ix_dict hu) (IxR.or ix_list (IxR.or ix_tup ix_str))) (ha.tmp e) (hb.tmp e) hs) fun s H Q h => mOp_read (fun e F r s H v1 v2 d1 d2 z Q k l1 l2 ef w => by
    simp only [oIxA] at ef
    unfold fIxA orF at ef
    split at ef
    · rename_i y hy
      cases ef
      unfold fIx at hy
      split at hy
      · split at hy
        · rename_i hd; cases hy
          obtain ⟨p, xs, e1, h1, r1⟩ := l1.lst k.sub
          obtain ⟨v, g1, g2⟩ := r1.at hd
          exact .inr (.inl ⟨p, xs, _, v, e1, l2.int, .inl h1, g1, w _ F H k (Sub.refl F) (.val g2)⟩)
        · cases hy
      · split at hy
        · rename_i hd; cases hy
          obtain ⟨p, xs, e1, h1, r1, _⟩ := l1.tup k.sub
          obtain ⟨v, g1, g2⟩ := r1.at hd
          exact .inr (.inr (.inl ⟨p, xs, _, v, e1, l2.int, h1, g1, w _ F H k (Sub.refl F) (.val g2)⟩))
        · cases hy
      · split at hy
        · rename_i hz
          split at hy
          · rename_i hd; cases hy
            exact .inr (.inr (.inr ⟨_, _, _, l1.str, l2.int, hz, hd, w _ F H k (Sub.refl F) (.val (.str _))⟩))
          · cases hy
        · cases hy
      · cases hy
    · unfold fIxD at ef
      split at ef
      · split at ef
        · rename_i hk
          split at ef
          · rename_i k0 ek
            split at ef
            · rename_i d ed; cases ef
              obtain ⟨ad, kvs, e1, h1, h2, h3⟩ := l1.dk k.sub hk (dGet_ne ed)
              rcases val_get (k := k0) h2 h3 with ⟨_, n⟩ | ⟨v, d', g1, g2, g3⟩
              · rw [ed] at n; cases n
              · rw [ed] at g2; cases g2
                have ey := l2.key ek
                subst ey
                refine .inl ⟨ad, v, e1, ?_, w _ F H k (Sub.refl F) (.val g3)⟩
                have := DGet.k (k := k0) h1
                rw [g1] at this
                exact this
            · cases ef
          · cases ef
        · cases ef
      · cases ef) h
end
end DL
namespace DL
open PySem L2 PyProof.Rows
abbrev FS := Str → List D → Option R
def SmD (X : Cx) (id : String) (f : FS) : Prop := ∃ rr : V → List V → Hp → VK → Prop, MtR X id rr ∧ ∀ (e : En) (F : Hp) (r : Rho) (s : L2.St) (H : Hp) (x : Str) (vs : List V) (ds : List D) (z : R) (Q : VK),
  Ok X.K e F r s H → LkA X.K F H vs ds → f x ds = some z → (∀ v F' H', Ok X.K e F' r s H' → Sub F F' → RR X.K e F' r s H' z v → Q v H') → rr (.str x) vs H Q
/-- a method of texts and what it does, told so that it runs -/
structure SmK where
  f : FS
  k : Str → List D → (R → Prop) → Prop
  ok : ∀ x ds K, k x ds K → ∃ z, f x ds = some z ∧ K z
def stOf : R → Option Str
  | .val (.str x) => some x
  | _ => none
theorem stOf_of {x : R} {z : Str} (h : stOf x = some z) : x = .val (.str z) := by
  unfold stOf at h
  split at h
  · cases h; rfl
  · cases h
def mSm (o : SmK) (ma : ME) (ms : MA) : ME := fun r P => ma r fun x r1 => onO (stOf x) fun z => ms r1 fun xs r2 => onO (looks r2 xs) fun ds => o.k z ds fun w => P w r2
section
variable {X : Cx} {a b c : Expr} {ma mb mc : ME} {pos p p' apos : Pos} {x : Str} {i : Nat} {es : List Expr} {ms : MA}
theorem de_sm {id : String} {name : Str} {o : SmK} (hm : SmD X id o.f) (slot : Slot "str" name id) (hty : typeOf (.builtin id) = pure (.type "method_descriptor")) (ho : DE X b mb) (ha : DA X (a :: es) ms)
    (hbase : attributeBase b name X.env (eval b X.env) = eval b X.env := by rfl)
    (hfew : ((backTo pos (starEach (a :: es) X.env)).all (fun x => !x.1) && (backToKw pos (keywordEach [] X.env)).all (fun x => x.1.isSome) && decide ((a :: es).length + ([] : List Keyword).length + (if ([] : List Keyword).isEmpty then 0 else 1) < 30)) = true := by rfl)
    (hline : (apos.endLine == pos.line) = true := by rfl) (hs : starEach (a :: es) X.env = (false, eval a X.env) :: starEach es X.env := by rfl) (hplain : (backTo pos (starEach es X.env)).any (·.1) = false := by rfl) : DE X (.Call (.Attribute b name apos) (a :: es) [] pos) (mSm o mb ms) := fun e => by
  obtain ⟨rr, hr, hq⟩ := hm
  refine PE.imp (pe_bm PySem.F.plainAttrs_str slot hty hr (ho e) (ha e) hbase hfew hline hs hplain) fun s H Q ⟨F, r, k, P, hm, hP⟩ => ⟨F, r, k, _, hm, ?_⟩
  intro x r1 v F1 H1 hx1 k1 q1 t1
  obtain ⟨z, ez, hms⟩ := onO.ex hx1
  have e1 := stOf_of ez
  subst e1
  cases t1 with | val t1 =>
  cases t1
  refine ⟨rfl, F1, r1, k1, _, hms, ?_⟩
  intro xs r2 vs F2 H2 hx2 k2 q2 t2
  obtain ⟨ds, el, hx3⟩ := onO.ex hx2
  obtain ⟨w, ef, hp⟩ := o.ok _ _ _ hx3
  exact hq e F2 r2 s H2 z vs ds w Q k2 (t2.looks k2 el) ef fun v F' H' k' q' t' => hP w r2 v F' H' hp k' ((q1.trans q2).trans q') t'
/-- the lengths of a join -/
def joinLen (a : Str) (ys : List Str) : Nat := (ys.map (·.length)).sum + ys.length * a.length
def fJoin : FS := fun x ds => match ds with
  | [d] => match seqD d with
    | some es => match strsOf es with
      | some ys => if joinLen x ys ≤ 16777216 then some (.val (.str (Txt.join x ys))) else none
      | none => none
    | none => none
  | _ => none
theorem smd_join : SmD X "str.join" fJoin := by
  refine ⟨_, mt_join, fun e F r s H x vs ds z Q k l ef w => ?_⟩
  unfold fJoin at ef
  split at ef
  · rename_i d
    split at ef
    · rename_i es' e1
      split at ef
      · rename_i ys e2
        split at ef
        · rename_i hz; cases ef
          cases l with | cons l1 l2 =>
          cases l2
          cases d with
          | list ds =>
            cases e1
            obtain ⟨p, xs, g1, g2, g3⟩ := l1.lst k.sub
            subst g1
            refine ⟨x, p, ys, rfl, rfl, .inl ?_, hz, w _ F H k (Sub.refl F) (.val (.str _))⟩
            rw [← g3.strs e2]
            exact .inl g2
          | tuple ds =>
            cases e1
            obtain ⟨p, xs, g1, g2, g3, _⟩ := l1.tup k.sub
            subst g1
            refine ⟨x, p, ys, rfl, rfl, .inr ?_, hz, w _ F H k (Sub.refl F) (.val (.str _))⟩
            rw [← g3.strs e2]
            exact g2
          | _ => cases e1
        · cases ef
      · cases ef
    · cases ef
  · cases ef
def fSm1 (g : Str → Str → D) : FS := fun x ds => match ds with
  | [.str y] => some (.val (g x y))
  | _ => none
theorem smd_1 {id : String} {g : Str → Str → D} {gv : Str → Str → V} (hm : MtR X id (fun x xs H Q => ∃ a b, x = .str a ∧ xs = [.str b] ∧ Q (gv a b) H)) (hg : ∀ a b F, Rp X.K F (gv a b) (g a b)) : SmD X id (fSm1 g) := by
  refine ⟨_, hm, fun e F r s H x vs ds z Q k l ef w => ?_⟩
  unfold fSm1 at ef
  split at ef
  · rename_i y
    cases ef
    cases l with | cons l1 l2 =>
    cases l2
    have := l1.str
    subst this
    exact ⟨x, y, rfl, rfl, w _ F H k (Sub.refl F) (.val (hg _ _ _))⟩
  · cases ef
def fFind : FS := fSm1 fun a b => .int (Txt.find a b)
def fEnds : FS := fSm1 fun a b => .bool (Txt.endswith a b)
theorem smd_find : SmD X "str.find" fFind := smd_1 mt_find fun _ _ _ => .int _
theorem smd_endswith : SmD X "str.endswith" fEnds := smd_1 mt_endswith fun _ _ _ => .bl _
end
def kJoin (x : Str) (ds : List D) (K : R → Prop) : Prop := match ds with
  | [d] => onO (seqD d) fun es => onO (strsOf es) fun ys => Rq (joinLen x ys ≤ 16777216) (K (.val (.str (Txt.join x ys))))
  | _ => False
def jJoin : SmK := ⟨fJoin, kJoin, fun x ds K h => by
  unfold kJoin at h
  split at h
  · obtain ⟨es, e1, h1⟩ := onO.ex h
    obtain ⟨ys, e2, h2⟩ := onO.ex h1
    exact ⟨_, by simp only [fJoin, e1, e2, if_pos (Rq.c h2)], Rq.a h2⟩
  · exact h.elim⟩
def kSm1 (g : Str → Str → D) (x : Str) (ds : List D) (K : R → Prop) : Prop := match ds with
  | [.str y] => K (.val (g x y))
  | _ => False
theorem sm1_ok (g : Str → Str → D) (x : Str) (ds : List D) (K : R → Prop) (h : kSm1 g x ds K) : ∃ z, fSm1 g x ds = some z ∧ K z := by
  unfold kSm1 at h
  split at h
  · exact ⟨_, rfl, h⟩
  · exact h.elim
def jFind : SmK := ⟨fFind, kSm1 fun a b => .int (Txt.find a b), sm1_ok _⟩
def jEnds : SmK := ⟨fEnds, kSm1 fun a b => .bool (Txt.endswith a b), sm1_ok _⟩
end DL
namespace DL
open PySem L2 PyProof.Rows
theorem RpA.ofInts {K : Fg} {F : Hp} : ∀ (ns : List Int), RpA K F (ns.map V.int) (ns.map PyData.int)
  | [] => .nil
  | n :: ns => .cons (.int n) (RpA.ofInts ns)
def cutI (ns : List Int) (lo hi : Option Int) : List Int := (ns.drop (HT.sIx ns.length 0 lo)).take (HT.sIx ns.length ns.length hi - HT.sIx ns.length 0 lo)
theorem cutI_D (ns : List Int) (lo hi : Option Int) : cutD (ns.map PyData.int) lo hi = (cutI ns lo hi).map PyData.int := by
  unfold cutD cutI
  rw [List.length_map, List.map_take, List.map_drop]
def scOf : R → Option (List Int)
  | .ob (.scr ns) => some ns
  | _ => none
theorem scOf_of {x : R} {ns : List Int} (h : scOf x = some ns) : x = .scr ns := by
  unfold scOf at h
  split at h
  · cases h; rfl
  · cases h
def mSlS (ma : ME) (ml mh : MO') : ME := fun r P => ma r fun x r1 => ml r1 fun l r2 => mh r2 fun h r3 => onO (scOf x) fun ns => P (.own (.L ((cutI ns l h).map .int))) r3
section
variable {X : Cx} {a b c : Expr} {ma mb mc : ME} {pos p p' apos : Pos} {x : Str} {i : Nat} {es : List Expr} {ms : MA} {lo hi : Option Expr} {ml mh : MO'} {p2 : Pos}
theorem de_sliceS (ha : DE X a ma) (hl : DO X lo ml) (hh : DO X hi mh) : DE X (.Subscript a (.Slice lo hi none p2) pos) (mSlS ma ml mh) := fun e =>
  PE.imp (pe_slice sl_list (ha e) (hl e) (hh e)) fun s H Q ⟨F, r, k, P, hm, hP⟩ => ⟨F, r, k, _, hm, fun x r1 v F1 H1 hx k1 q1 t1 =>
    ⟨F1, r1, k1, _, hx, fun l r2 F2 H2 hx2 k2 q2 => ⟨F2, r2, k2, _, hx2, fun h r3 F3 H3 hx3 k3 q3 => by
      obtain ⟨ns, en, hp⟩ := onO.ex hx3
      have e1 := scOf_of en
      subst e1
      cases t1 with | ob g =>
      cases g with | scr g =>
      have q := (q1.trans q2).trans q3
      refine ⟨_, _, rfl, ((q2.trans q3).trans k3.sub).sqL g, fun p np => hP _ r3 _ F3 _ hp (k3.alloc np) q ?_⟩
      rw [← cutI_D]
      exact .newL k3 np ((RpA.ofInts ns).cut l h)⟩⟩⟩
end
end DL
namespace DL
open PySem L2 PyProof.Rows
section
variable {P : Program} {w : World} {K : Fg} {mg : Str → Option Value} {base : Heap} {x qual : Str} {params : Arguments} {body : List Stmt} {scope : Scope} {dvs : List V} {kws : List (Str × V)} {f : Addr} {fd : FuncData}
/-- a def of the text by its body -/
theorem fnd_def {N ps : List Str} {k : Nat} {m : MS} (F : FunD K x qual params body scope dvs kws f fd) (S : FnScope N ps scope)
    (hbody : ∀ (cdv : Value) (A : Around) (outer : List Env) (s : Shared) (H : Hp) (E : XK), Room k (A.deeper (envOfC qual scope s.heap.objs.size f cdv)) → A.guards = some [] → DSs (cxOf CX0 P w K mg base N qual scope f cdv A outer s H E).nox body m) : FnD P w K mg base (k + 1) f fd ps (ctOf N.length m) := by
  obtain ⟨oc, od, dV, kV, doc, pm, an, cdv, ct, osl, rfl, lk, hcd, _, _⟩ := F.ex
  exact fnd_of lk hcd S fun A outer s H E hr hg => hbody cdv A outer s H E hr hg
end
section
variable {P : Program} {w : World} {K : Fg} {mg mb : Str → Option Value} {k : Nat} {fa a : Addr} {fd : FuncData} {x : Str} {c : Ct} {s1 : Shared} {vs : List Value} {ns : List Int}
/-- one call of the law in a heap that tracks at most the script -/
theorem law_run {H : Hp} (KX : K.In s1.heap) (n1 : s1.heap.Ns mainGlobals mg) (n2 : s1.heap.Ns builtinsNs mb) (n3 : ∀ x : Str, x ≠ "__name__" → mb x = bootBuiltins x) (n4 : s1.heap.NoLimit) (hg : s1.gens = #[])
    (ha : s1.heap.get? a = some { cls := .type "list", data := .seq vs.toArray }) (hr : Room k callerA)
    (F : ∀ base : Heap, K.In base → base.Ns mainGlobals mg → FnD P w K mg base k fa fd [x] c) (hbind : ∀ (s : Shared) (u : Value), BindsTo s fd ⟨[u], []⟩ [(x, u)])
    (hc : c [.scr ns] fun y _ => y = .val (.bool true)) (hO : Only H) (hS : SqL K H a (ns.map V.int)) (hok : HOk P w H s1.heap) (hA : ∀ b, H b ≠ none → b = a) (hK : H a ≠ none → K.lookup a = none) :
    codeAny (model P w) callerA (.call (.ref fa) ⟨[.ref a], []⟩) (fun r s' => r = .ok (.ret (.bool true)) ∧ OldK s1.heap s'.heap ∧ s'.os = s1.os ∧ AllBare s'.gens) s1 := by
  have free : ∀ {b : Addr} {o : Obj} {es : Array DictEntry} {ep : Nat}, s1.heap.get? b = some o → o.data = .dict es ep → H b = none := by
    intro b o es ep e d
    by_cases q : H b = none
    · exact q
    · cases hA b q
      rw [ha] at e; cases e; cases d
  have ns' : ∀ {b : Addr} {m : Str → Option Value}, s1.heap.Ns b m → (hidT s1.heap H).Ns b m := by
    rintro b m ⟨o, es, ep, e, d, r⟩
    exact ⟨o, es, ep, hidT_get e (free e d), d, r⟩
  have kin : K.In (hidT s1.heap H) := by
    intro b o e
    refine hidT_get (KX b o e) ?_
    by_cases q : H b = none
    · exact q
    · cases hA b q
      rw [hK q] at e; cases e
  obtain ⟨mc, l1, l2⟩ := n4
  have md : Mod K mg (hidT s1.heap H) := ⟨kin, ns' n1, ⟨mb, ns' n2, n3⟩, mc, ns' l1, l2⟩
  have ev : Env0 P w K mg (hidT s1.heap H) callerA [] s1 H := ⟨rfl, md, fun b o e => of_hidT e, Nat.le_of_eq (hidT_size _ _), trivial, fun b z => (by cases z), hok, .of_eq hg⟩
  have got := (F _ kin (ns' n1)).run callerA [] s1 H ⟨[.ref a], []⟩ [.ref a] [.ref a] (fun v _ => v = .bl true) (fun _ _ _ => False) hr rfl ev (hbind s1 (.ref a)) (.cons rfl .nil)
    ⟨H, [.scr ns], rfl, Sub.refl H, .cons (.ob (.scr hS)) .nil, ⟨fun i p m z => (by cases i <;> simp at z), fun i j p m m' z => (by cases i <;> simp at z)⟩, _, hc, fun y as' v F' H' e1 did re => by
      subst e1
      cases re with | val rp => cases rp; rfl⟩
  refine codeAny_mono got fun r s' h => ?_
  match r, h with
  | .error e, h => exact h.elim
  | .ok .next, h => exact h.elim
  | .ok .brk, h => exact h.elim
  | .ok .cont, h => exact h.elim
  | .ok (.ret u), ⟨v, H', os, bare, un, hok', rv, q⟩ =>
    have q' : v = .bl true := q
    subst q'
    obtain rfl : u = Value.bool true := rv
    refine ⟨rfl, OldK.of_keep fun b o e => ?_, os, bare⟩
    rcases hO b with z | ⟨ob, xs, z⟩
    · exact un.keep b o e z (fun y => by cases y) (fun y => by cases y)
    · have e1 := (hok b _ z).1
      rw [e] at e1; cases e1
      exact (hok' b _ (un.frzs b _ _ z)).1
theorem law_end (KX : K.In s1.heap) (n1 : s1.heap.Ns mainGlobals mg) (n2 : s1.heap.Ns builtinsNs mb) (n3 : ∀ x : Str, x ≠ "__name__" → mb x = bootBuiltins x) (n4 : s1.heap.NoLimit) (hg : s1.gens = #[])
    (ha : s1.heap.get? a = some { cls := .type "list", data := .seq vs.toArray }) (hi : IntsAre vs ns) (hl : ns.length ≤ sizeLine) (hr : Room k callerA)
    (F : ∀ base : Heap, K.In base → base.Ns mainGlobals mg → FnD P w K mg base k fa fd [x] c) (hbind : ∀ (s : Shared) (u : Value), BindsTo s fd ⟨[u], []⟩ [(x, u)])
    (hc : c [.scr ns] fun y _ => y = .val (.bool true)) :
    codeAny (model P w) callerA (.call (.ref fa) ⟨[.ref a], []⟩) (fun r s' => r = .ok (.ret (.bool true)) ∧ OldK s1.heap s'.heap ∧ s'.os = s1.os ∧ AllBare s'.gens) s1 := by
  have go := fun {H : Hp} => law_run (H := H) KX n1 n2 n3 n4 hg ha hr F hbind hc
  have rv := vals_ints hi
  have len := hi.length
  cases hk : K.lookup a with
  | some o =>
    have e := KX a o hk
    rw [ha] at e; cases e
    refine go (H := fun _ => none) (fun _ => .inl rfl) (.inr ⟨_, vs.toArray, _, hk, rfl, rfl, rfl, ?_, rv⟩) (fun b u z => by cases z) (fun b z => (z rfl).elim) fun z => (z rfl).elim
    rw [List.size_toArray, len]; exact hl
  | none =>
    refine go (H := upd (fun _ => none) a (.frz { cls := .type "list", data := .seq vs.toArray } (.lst (ns.map V.int)))) (fun b => ?_) (.inl (.inr ⟨_, upd_same⟩)) (fun b u z => ?_) (fun b z => ?_) fun _ => hk
    · by_cases q : b = a
      · subst q; exact .inr ⟨_, _, upd_same⟩
      · exact .inl (upd_ne q)
    · by_cases q : b = a
      · subst q
        rw [upd_same] at z
        cases z
        exact ⟨ha, by rw [List.length_map]; exact hl, vs, _, rv, ha⟩
      · rw [upd_ne q] at z; cases z
    · by_cases q : b = a
      · exact q
      · exact absurd (upd_ne q) z
end
theorem walk_d {l : PySem.W.OpenLaw} {n k : Nat} {q : Program} {loose : List Str} {XP : (Str → Option Value) → Heap → Prop} {YP : World → Heap → Prop} {d : DefRec} {x : Str}
    (hn : l.most = some n) (hn2 : n ≤ sizeLine) (hdf : d.params.defaults = []) (hr : Room k callerA)
    (F : ∀ (w : World) (mg : Str → Option Value) (fa : Addr) (h : Heap), YP w h → h.Ns mainGlobals mg → mg d.name = some (.ref fa) →
      ∃ (K : Fg) (fd : FuncData) (c : Ct), K.In h ∧ (∀ (s : Shared) (u : Value), BindsTo s fd ⟨[u], []⟩ [(x, u)]) ∧ (∀ ns : List Int, ns.length ≤ n → c [.scr ns] fun y _ => y = .val (.bool true)) ∧
        ∀ base : Heap, K.In base → base.Ns mainGlobals mg → FnD l.prog w K mg base k fa fd [x] c) :
    PySem.W.WalkO q loose XP YP l.row.toRowW d [] (fun f vs => PySem.call f vs) := by
  refine Att.attach_call hn hdf fun w s0 s1 mg mb fa o pm cd doc a vs ns G Y ho hd hcd hmg hobj hints hlen hg => ?_
  obtain ⟨K, fd, c, KX, hb, hc, hF⟩ := F w mg fa _ Y G.T.g hmg
  exact law_end KX G.T.g G.T.b G.T.builtins G.T.nolimit hg hobj hints (Nat.le_trans hlen hn2) hr hF hb (hc ns hlen)
end DL
namespace DL
open PySem L2 PyProof.Rows
theorem u66 {k : Nat} {A : Around} (r : Room k A) : A.units + 66 < cLine := by have := r.un; omega
theorem u65 {k : Nat} {A : Around} (r : Room k A) : A.units + 65 < cLine := by have := r.un; omega
theorem u64 {k : Nat} {A : Around} (r : Room k A) : A.units + 64 < cLine := by have := r.un; omega
theorem u1 {k : Nat} {A : Around} (r : Room k A) : A.units + 1 < cLine := by have := r.un; omega
/-- the module's name x is the datum d -/
def Con (K : Fg) (mg : Str → Option Value) (x : Str) (d : D) : Prop := ∃ u n, mg x = some u ∧ rpB K n u d = true
/-- the module's name x is the table t -/
def TabAt (w : World) (K : Fg) (mg : Str → Option Value) (x : Str) (t : Tab) : Prop := ∃ a es n, mg x = some (.ref a) ∧ K.lookup a = some ⟨.type "dict", none, .dict es n, #[]⟩ ∧ tabB w.params es.toList t = true ∧ (a == sysModules) = false
/-- the module's name x is a def that keeps the contract c -/
structure Def (P : Program) (w : World) (K : Fg) (mg : Str → Option Value) (base : Heap) (k : Nat) (x : Str) (n : Nat) (ks : List Str) (G : List R → List R → List R) (c : Ct) : Prop where
  ex : ∃ f fd ps, mg x = some (.ref f) ∧ PySem.W.keepIn K (.ref f) = true ∧ FnD P w K mg base k f fd ps c ∧ Bd K fd ps n ks G
section
variable {X : Cx} {a b c : Expr} {ma mb mc : ME} {pos p p' apos : Pos} {x : Str} {i : Nat} {es : List Expr} {ms mk : MA} {kws : List Keyword} {k n : Nat} {ks : List Str} {G : List R → List R → List R} {ct : Ct} {t : Tab}
theorem de_con {d : D} (h : Con X.K X.mg x d) (hg : Gl X x) (hd : (x == ("__debug__" : Str)) = false := by decide) : DE X (.Name x pos) (mVal d) := by
  obtain ⟨u, n, h1, h2⟩ := h
  exact de_glob n hg h1 h2 hd
theorem de_tix (h : TabAt X.w X.K X.mg x t) (hg : Gl X x) (hb : DE X b mb) (hs : PlainIx b := by intro _ _; rfl) (hd : (x == ("__debug__" : Str)) = false := by decide) : DE X (.Subscript (.Name x p) b pos) (mKix t mb) := by
  obtain ⟨ad, es, n, h1, h2, h3, h4⟩ := h
  exact de_kix hg h1 (.of h2 h3 h4) hb hs hd
theorem kin_read {e : En} {neg : Bool} {ad : Addr} {s : L2.St} {H : Hp} {Q : VK} (h : T X.K e (mKin neg t mb) s H Q) : tOp (fun y x H Q => ∃ z, y = .str z ∧ x = .ref ad ∧ Q (.bl (if neg = true then !(tLook t z).isSome else (tLook t z).isSome)) H) (Tt X.K e (mTmp mb)) (tC (.ref ad)) s H Q := by
  obtain ⟨F, r, ko, P, hm, hP⟩ := h
  refine ⟨F, r, ko, fun y r1 => onT r1 y fun z => P (.val (.bool (if neg = true then !(tLook t z).isSome else (tLook t z).isSome))) r1, hm, ?_⟩
  intro y r1 v F1 H1 hx k1 q1 t1
  obtain ⟨z, el, hp⟩ := onT.ex hx
  exact ⟨z, (t1.look k1 el).str, rfl, hP _ r1 _ F1 H1 hp k1 q1 (.val (.bl _))⟩
theorem dt_tnotin (h : TabAt X.w X.K X.mg x t) (hg : Gl X x) (hb : DE X b mb) (hmk : behindInMarks .NotIn (.Name x p) = false := by rfl) (hd : (x == ("__debug__" : Str)) = false := by decide) : DT X (.Compare b [.NotIn] [.Name x p] pos) (mTest (mKin true t mb)) := fun e => by
  obtain ⟨ad, es, n, h1, h2, h3, h4⟩ := h
  exact PT.imp (pt_cmpR (notin_ktab (.of h2 h3 h4)) (hb.tmp e) (pe_glob (v := .ref ad) hg h1 rfl hd) hmk) fun s H Q h => tTest_of (fun s H Q h => kin_read h) h
theorem de_def (h : Def X.prog X.w X.K X.mg X.base k x n [] G ct) (hr : Room k X.A) (hgu : X.A.guards = some []) (hg : Gl X x)
    (ha : DA X (a :: es) ms) (hdb : (x == ("__debug__" : Str)) = false := by decide) (he : starEach (a :: es) X.env = (false, eval a X.env) :: starEach es X.env := by rfl) (hpl : (backTo pos (starEach es X.env)).any (·.1) = false := by rfl) :
    DE X (.Call (.Name x p) (a :: es) [] pos) (mFnK ct G n 0 ms aNil) := by
  obtain ⟨f, fd, ps, h1, h2, h3, h4⟩ := h.ex
  exact de_fn h3 hr hgu hg h1 h2 h4 ha hdb he hpl
theorem de_def0 (h : Def X.prog X.w X.K X.mg X.base k x 0 [] G ct) (hr : Room k X.A) (hgu : X.A.guards = some []) (hg : Gl X x) (hdb : (x == ("__debug__" : Str)) = false := by decide) : DE X (.Call (.Name x p) [] [] pos) (mFnK ct G 0 0 aNil aNil) := by
  obtain ⟨f, fd, ps, h1, h2, h3, h4⟩ := h.ex
  exact de_fn0 h3 hr hgu hg h1 h2 h4 hdb
theorem de_defK (h : Def X.prog X.w X.K X.mg X.base k x n ks G ct) (hr : Room k X.A) (hgu : X.A.guards = some []) (hg : Gl X x)
    (ha : DA X (a :: es) ms) (hkw : TAk X kws mk) (hall : (backToKw pos (keywordEach kws X.env)).all (·.1.isSome) = true := by rfl) (hks : (backToKw pos (keywordEach kws X.env)).filterMap (·.1) = ks := by rfl)
    (hdb : (x == ("__debug__" : Str)) = false := by decide) (he : starEach (a :: es) X.env = (false, eval a X.env) :: starEach es X.env := by rfl)
    (hpl : ((backTo pos (starEach (a :: es) X.env)).any (·.1) || (backToKw pos (keywordEach kws X.env)).any (·.1.isNone)) = false := by rfl) : DE X (.Call (.Name x p) (a :: es) kws pos) (mFnK ct G n ks.length ms mk) := by
  obtain ⟨f, fd, ps, h1, h2, h3, h4⟩ := h.ex
  exact de_fnK h3 hr hgu hg h1 h2 h4 ha hkw hall hks hdb he hpl
theorem de_defK0 (h : Def X.prog X.w X.K X.mg X.base k x 0 ks G ct) (hr : Room k X.A) (hgu : X.A.guards = some []) (hg : Gl X x)
    (hkw : TAk X kws mk) (hall : (backToKw pos (keywordEach kws X.env)).all (·.1.isSome) = true := by rfl) (hks : (backToKw pos (keywordEach kws X.env)).filterMap (·.1) = ks := by rfl)
    (hdb : (x == ("__debug__" : Str)) = false := by decide)
    (hpl : ((backTo pos (starEach [] X.env)).any (·.1) || (backToKw pos (keywordEach kws X.env)).any (·.1.isNone)) = false := by rfl) : DE X (.Call (.Name x p) [] kws pos) (mFnK ct G 0 ks.length aNil mk) := by
  obtain ⟨f, fd, ps, h1, h2, h3, h4⟩ := h.ex
  exact de_fnK0 h3 hr hgu hg h1 h2 h4 hkw hall hks hdb hpl
end
def conB (K : Fg) (c : Str × D) : Bool := match PySem.W.nsIn K mainGlobals c.1 with
  | some (some u) => rpB K 40 u c.2
  | _ => false
def entV (e : DictEntry) : Option (Str × Int × Str) := match e.key, e.val with
  | .str x _, .str y _ => some (x, e.hash, y)
  | _, _ => none
def tabV (K : Fg) (x : Str) : Option (List (Option (Str × Int × Str))) := match PySem.W.nsIn K mainGlobals x with
  | some (some (.ref a)) => match K.lookup a with
    | some ⟨.type c, none, .dict es _, sl⟩ => (match decide (c = "dict") && (sl.isEmpty && !(a == sysModules)) with
      | true => some (es.toList.map entV)
      | false => none)
    | _ => none
  | _ => none
def tabW (P : Params) (t : Tab) : List (Option (Str × Int × Str)) := t.map fun p => some (p.1, PyData.keyHash P p.1, p.2)
theorem tabB_of {P : Params} : ∀ {es : List DictEntry} {t : Tab}, es.map entV = tabW P t → tabB P es t = true
  | [], [], _ => by rfl
  | [], _ :: _, h => by cases h
  | _ :: _, [], h => by cases h
  | e :: es, p :: t, h => by
    have h1 : entV e :: es.map entV = some (p.1, PyData.keyHash P p.1, p.2) :: tabW P t := h
    injection h1 with h2 h3
    have ih := tabB_of h3
    obtain ⟨hh, kk, vv⟩ := e
    obtain ⟨x, y⟩ := p
    unfold entV at h2
    split at h2
    · rename_i a ta b tb e1 e2
      simp only at e1 e2
      subst e1 e2
      have h4 := Option.some.inj h2
      simp only [Prod.mk.injEq] at h4
      obtain ⟨q1, q2, q3⟩ := h4
      subst q1 q2 q3
      unfold tabB
      simp [ih]
    · cases h2
abbrev AlX : Type := He.AlD × Bool × List (Option (List (Option (Str × Int × Str))))
def obsX (fa : List He.Fa) (fn : List He.DefD) (cs : List (Str × D)) (ts : List (Str × Tab)) (K : Fg) : AlX := (He.obsD fa fn K, cs.all (conB K), ts.map fun t => tabV K t.1)
def valX (fn : List He.DefD) (ts : List (Str × Tab)) (w : World) : AlX := (He.valD fn, true, ts.map fun t => some (tabW w.params t.2))
def obsXG (n : Nat) (fa : List He.Fa) (fn : List He.DefD) (cs : List (Str × D)) (ts : List (Str × Tab)) (g : Addr → Option Obj) : AlX := obsX fa fn cs ts (He.frG g (He.asD g n))
def SaysX (fa : List He.Fa) (fn : List He.DefD) (cs : List (Str × D)) (ts : List (Str × Tab)) (w : World) (K : Fg) : Prop := obsX fa fn cs ts K = valX fn ts w
def hookX (n : Nat) (fa : List He.Fa) (fn : List He.DefD) (cs : List (Str × D)) (ts : List (Str × Tab)) : PySem.W.Hook where
  α := AlX
  obs := fun s => obsXG n fa fn cs ts s.heap.get?
  val := fun w => valX fn ts w
  says := fun w h => ∃ K : Fg, K.In h ∧ SaysX fa fn cs ts w K
  of := fun _ _ e => ⟨_, He.frG_in, e⟩
  keeps := fun _ _ _ ⟨K, hK, c⟩ k => ⟨K, PySem.W.Frag.In.keeps hK k, c⟩
theorem obsXG_eq {n : Nat} {fa : List He.Fa} {fn : List He.DefD} {cs : List (Str × D)} {ts : List (Str × Tab)} {g : Addr → Option Obj} {s : Shared} (h : ∀ a, g a = s.heap.get? a) : obsXG n fa fn cs ts g = (hookX n fa fn cs ts).obs s := by
  have e : g = s.heap.get? := funext h
  rw [e] <;> rfl
section
variable {fa : List He.Fa} {fn : List He.DefD} {cs : List (Str × D)} {ts : List (Str × Tab)} {w : World} {K : Fg} {h : Heap} {mg : Str → Option Value}
theorem SaysX.defs (c : SaysX fa fn cs ts w K) : He.SaysD fa fn K := congrArg (fun z : AlX => z.1) c
theorem SaysX.con (c : SaysX fa fn cs ts w K) (X : K.In h) (G : h.Ns mainGlobals mg) (i : Nat) {x : Str} {d : D} (e : cs[i]? = some (x, d) := by rfl) : Con K mg x d := by
  have c1 : cs.all (conB K) = true := congrArg (fun z : AlX => z.2.1) c
  have c2 := List.all_eq_true.mp c1 _ (List.mem_of_getElem? e)
  unfold conB at c2
  split at c2
  · rename_i u hu
    exact ⟨u, 40, PySem.W.mg_of X G hu, c2⟩
  · cases c2
theorem SaysX.tab (c : SaysX fa fn cs ts w K) (X : K.In h) (G : h.Ns mainGlobals mg) (i : Nat) {x : Str} {t : Tab} (e : ts[i]? = some (x, t) := by rfl) : TabAt w K mg x t := by
  have c1 : ts.map (fun t => tabV K t.1) = ts.map fun t => some (tabW w.params t.2) := congrArg (fun z : AlX => z.2.2) c
  have c2 : tabV K x = some (tabW w.params t) := by
    have a1 : (ts.map (fun t => tabV K t.1))[i]? = some (tabV K x) := by rw [List.getElem?_map, e]; rfl
    have a2 : (ts.map fun t => some (tabW w.params t.2))[i]? = some (some (tabW w.params t)) := by rw [List.getElem?_map, e]; rfl
    rw [c1, a2] at a1
    exact (Option.some.inj a1).symm
  unfold tabV at c2
  split at c2
  · rename_i a ha
    split at c2
    · rename_i cc es n sl hl
      split at c2
      · rename_i hq
        simp only [Bool.and_eq_true, decide_eq_true_eq] at hq
        obtain ⟨q1, q2, q3⟩ := hq
        have e2 : sl = #[] := Array.isEmpty_iff.mp q2
        subst q1 e2
        refine ⟨a, es, n, PySem.W.mg_of X G ha, hl, tabB_of (Option.some.inj c2), ?_⟩
        simpa using q3
      · cases c2
    · cases c2
  · cases c2
end
end DL
namespace DL
open PySem L2 PyProof.Rows
/-- values by places (false) and by names (true), put in order -/
def pick {α : Type} (ix : List (Bool × Nat)) (us ws : List α) : List α := match ix with
  | [] => []
  | p :: ix => match (if p.1 = true then ws[p.2]? else us[p.2]?) with
    | some u => u :: pick ix us ws
    | none => pick ix us ws
def ixOk (n m : Nat) (ix : List (Bool × Nat)) : Bool := ix.all fun p => if p.1 = true then decide (p.2 < m) else decide (p.2 < n)
theorem pick_length {α : Type} {us ws : List α} : ∀ {ix : List (Bool × Nat)}, ixOk us.length ws.length ix = true → (pick ix us ws).length = ix.length
  | [], _ => rfl
  | p :: ix, h => by
    simp only [ixOk, List.all_cons, Bool.and_eq_true] at h
    have ih := pick_length (us := us) (ws := ws) (ix := ix) (by simpa [ixOk] using h.2)
    obtain ⟨b, i⟩ := p
    cases b with
    | true =>
      have hi : i < ws.length := by simpa using h.1
      simp [pick, List.getElem?_eq_getElem hi, ih]
    | false =>
      have hi : i < us.length := by simpa using h.1
      simp [pick, List.getElem?_eq_getElem hi, ih]
theorem vals_none {vs : List V} {us : List Value} {i : Nat} (r : Vals vs us) (h : vs[i]? = none) : us[i]? = none := by
  rw [List.getElem?_eq_none_iff] at h ⊢
  rw [← r.length]; exact h
theorem pick_vals {vs zs : List V} {us ws : List Value} (r : Vals vs us) (q : Vals zs ws) : ∀ ix : List (Bool × Nat), Vals (pick ix vs zs) (pick ix us ws)
  | [] => .nil
  | p :: ix => by
    have ih := pick_vals r q ix
    obtain ⟨b, i⟩ := p
    cases b with
    | true =>
      cases e : zs[i]? with
      | none => simp [pick, e, vals_none q e, ih]
      | some z =>
        obtain ⟨u, e2, ru⟩ := q.get e
        simp only [pick, if_pos, e, e2]
        exact .cons ru ih
    | false =>
      cases e : vs[i]? with
      | none => simp [pick, e, vals_none r e, ih]
      | some z =>
        obtain ⟨u, e2, ru⟩ := r.get e
        simp only [pick, Bool.false_eq_true, if_false, e, e2]
        exact .cons ru ih
theorem rts_get {K : Fg} {F : Hp} {s : L2.St} {xs : List R} {vs : List V} (t : RTs K F s xs vs) (i : Nat) : (xs[i]? = none ∧ vs[i]? = none) ∨ ∃ x v, xs[i]? = some x ∧ vs[i]? = some v ∧ RT K F s x v := by
  induction t generalizing i with
  | nil => exact .inl ⟨by simp, by simp⟩
  | cons a _ ih =>
    cases i with
    | zero => exact .inr ⟨_, _, rfl, rfl, a⟩
    | succ i => simpa using ih i
theorem pick_rts {K : Fg} {F : Hp} {s : L2.St} {xs zs : List R} {vs ws : List V} (t : RTs K F s xs vs) (q : RTs K F s zs ws) : ∀ ix : List (Bool × Nat), RTs K F s (pick ix xs zs) (pick ix vs ws)
  | [] => .nil
  | p :: ix => by
    have ih := pick_rts t q ix
    obtain ⟨b, i⟩ := p
    cases b with
    | true =>
      rcases rts_get q i with ⟨e1, e2⟩ | ⟨x, v, e1, e2, r⟩
      · simp [pick, e1, e2, ih]
      · simp only [pick, if_pos, e1, e2]
        exact .cons r ih
    | false =>
      rcases rts_get t i with ⟨e1, e2⟩ | ⟨x, v, e1, e2, r⟩
      · simp [pick, e1, e2, ih]
      · simp only [pick, Bool.false_eq_true, if_false, e1, e2]
        exact .cons r ih
section
variable {K : Fg} {x qual : Str} {params : Arguments} {body : List Stmt} {scope : Scope} {dvs : List V} {kws : List (Str × V)} {f : Addr} {fd : FuncData} {ps : List Str}
/-- every parameter is written, by place or by name; no defaults but keyword-only ones -/
theorem Bd.pick (F : FunD K x qual params body scope [] kws f fd) (n : Nat) (ks : List Str) (ix : List (Bool × Nat)) (hl : ix.length = ps.length) (ho : ixOk n ks.length ix = true)
    (h : ∀ (kV doc pm : Value) (an : Option Addr) (cdv ct : Value) (us ws : List Value), us.length = n → ws.length = ks.length → bindArgs (PySem.W.fnOf x qual params body scope .none kV doc pm an cdv ct) ⟨us, ks.zip ws⟩ = pure (ps.zip (DL.pick ix us ws))) : Bd K fd ps n ks (DL.pick ix) := by
  obtain ⟨oc, od, dV, kV, doc, pm, an, cdv, ct, osl, rfl, lk, hcd, hD, hK⟩ := F.ex
  rcases hD with ⟨_, rfl⟩ | ⟨e, _⟩
  · exact ⟨fun us ws => DL.pick ix us ws, fun vs zs => DL.pick ix vs zs, ⟨fun s us ws X l1 l2 => .of_eq (h kV doc pm an cdv ct us ws l1 l2), fun r q => pick_vals r q ix⟩, fun vs zs l1 l2 => by rw [pick_length (by rw [l1, l2]; exact ho), hl], fun F s xs vs zs ws t q _ _ => pick_rts t q ix⟩
  · exact absurd rfl e
end
theorem Def.of {P : Program} {w : World} {K : Fg} {mg : Str → Option Value} {base : Heap} {k n : Nat} {x : Str} {ks : List Str} {G : List R → List R → List R} {c : Ct} {f : Addr} {fd : FuncData} {ps : List Str} (hm : mg x = some (.ref f)) (hk : PySem.W.keepIn K (.ref f) = true) (F : FnD P w K mg base k f fd ps c) (hb : Bd K fd ps n ks G) : Def P w K mg base k x n ks G c := ⟨⟨f, fd, ps, hm, hk, F, hb⟩⟩
end DL
namespace DL
open PySem L2 PyProof.Rows
theorem br_b {b : Bool} {A B : Prop} (h : b = true → A) (g : b = false → B) : brK b A B := by
  cases b with
  | true => exact h rfl
  | false => exact g rfl
theorem br_d {A B p : Prop} [Decidable p] (h : p → A) (g : ¬ p → B) : brK (decide p) A B := br_b (fun e => h (of_decide_eq_true e)) fun e => g (of_decide_eq_false e)
theorem br_nd {A B p : Prop} [Decidable p] (h : ¬ p → A) (g : p → B) : brK (!decide p) A B := br_b (fun e => h (by simpa using e)) fun e => g (by simpa using e)
theorem on_i {α : Type} {o : Option α} {K : α → Prop} {a : α} (e : o = some a) (h : K a) : onO o K := by subst e; exact h
theorem brT {b : Bool} {A B : Prop} (e : b = true) (h : A) : brK b A B := by subst e; exact h
theorem loop_by {g : GT} {body : MS} {O : Out} (I : List D → Rho → Prop) (h : ∀ d ds r, I (d :: ds) r → (∀ r', I ds r' → loopM g body ds r' O) → loopM g body (d :: ds) r O) (h0 : ∀ r, I [] r → O.nx r) : ∀ ds r, I ds r → loopM g body ds r O
  | [], r, q => h0 r q
  | d :: ds, r, q => h d ds r q fun r' q' => loop_by I h h0 ds r' q'
theorem lc_by {vs : List Nat} {g : GT} {tt : MT} {te : ME} {P : List D → Rho → Prop} (I : List D → List D → Rho → Prop) (h : ∀ d ds acc r, I (d :: ds) acc r → (∀ acc' r', I ds acc' r' → lcM vs g tt te P ds acc' r') → lcM vs g tt te P (d :: ds) acc r) (h0 : ∀ acc r, I [] acc r → P acc r) : ∀ ds acc r, I ds acc r → lcM vs g tt te P ds acc r
  | [], acc, r, q => h0 acc r q
  | d :: ds, acc, r, q => h d ds acc r q fun acc' r' q' => lc_by I h h0 ds acc' r' q'
theorem at_ints (cs : List Int) {i : Int} (h0 : 0 ≤ i) (h1 : i < cs.length) : ∃ c, atI (cs.map PyData.int) i = some (.int c) := by
  have hl : i.toNat < cs.length := by omega
  refine ⟨cs[i.toNat], ?_⟩
  unfold atI ixN
  rw [List.length_map, if_pos h0, if_pos h1]
  simp [hl]
theorem mul_bd {a b A B : Int} (h1 : 0 ≤ a) (h2 : a ≤ A) (h3 : 0 ≤ b) (h4 : b ≤ B) : 0 ≤ a * b ∧ a * b ≤ A * B := ⟨Int.mul_nonneg h1 h3, Int.mul_le_mul h2 h4 h3 (by omega)⟩
theorem at_lt {α : Type} {ds : List α} {v : Int} (h0 : 0 ≤ v) (h1 : v < ds.length) : ∃ d, atI ds v = some d ∧ d ∈ ds := by
  have hl : v.toNat < ds.length := by omega
  refine ⟨ds[v.toNat], ?_, List.getElem_mem hl⟩
  unfold atI ixN
  rw [if_pos h0, if_pos h1]
  simp [hl]
theorem at_all {α : Type} {ds : List α} {v : Int} (p : α → Prop) (h0 : 0 ≤ v) (h1 : v < ds.length) (h : ∀ d ∈ ds, p d) : ∃ d, atI ds v = some d ∧ p d := by
  obtain ⟨d, e, m⟩ := at_lt h0 h1
  exact ⟨d, e, h d m⟩
theorem okR_of {i : Int} (h1 : -1000000000000000000 ≤ i) (h2 : i ≤ 1000000000000000000) : okR i = true := Nat.ble_eq_true_of_le (by omega)
end DL
namespace DL
open PySem L2 PyProof.Rows
def okS (x : Str) : Prop := ∀ c ∈ x.cps.toList, c < 1114112
theorem okS.ok {x : Str} (h : okS x) : PyData.strOk x = true := by
  unfold PyData.strOk
  rw [Array.all_eq_true']
  intro c hc
  exact decide_eq_true (h c (Array.mem_toList_iff.mpr hc))
theorem sum_le {xs : List Str} {m : Nat} (h : ∀ x ∈ xs, x.length ≤ m) : (xs.map (·.length)).sum ≤ xs.length * m := by
  induction xs with
  | nil => simp
  | cons x xs ih =>
    have h1 := h x List.mem_cons_self
    have h2 := ih fun y hy => h y (List.mem_cons_of_mem _ hy)
    simp only [List.map_cons, List.sum_cons, List.length_cons, Nat.succ_mul]
    omega
theorem joinLen_le {a : Str} {xs : List Str} {m : Nat} (h : ∀ x ∈ xs, x.length ≤ m) : joinLen a xs ≤ xs.length * (m + a.length) := by
  have := sum_le h
  unfold joinLen
  rw [Nat.mul_add]
  omega
/-- of a written text -/
def okSB (x : Str) : Bool := x.cps.all (· < 1114112)
theorem okS_of {x : Str} (h : okSB x = true) : okS x := by
  intro c hc
  unfold okSB at h
  rw [Array.all_eq_true'] at h
  exact of_decide_eq_true (h c (Array.mem_toList_iff.mp hc))
theorem cutD_hi (ds : List D) (k : Nat) : cutD ds none (some (k : Int)) = ds.take k := by
  unfold cutD
  rw [HT.sIx_none, HT.sIx_nat, List.drop_zero, Nat.sub_zero]
  apply List.ext_getElem?
  intro i
  simp only [List.getElem?_take]
  by_cases h : i < k
  · by_cases h2 : i < ds.length
    · rw [if_pos (by omega), if_pos h]
    · rw [if_neg (by omega), if_pos h, List.getElem?_eq_none (by omega)]
  · rw [if_neg (by omega), if_neg h]
end DL
namespace DL
open PySem L2 PyProof.Rows
inductive W0 | nothing | never
inductive W1 | sign | but | name | again
inductive WM | row | choice
inductive WO | many | maybe | ahead | not
inductive W2 | hold | tag | make
def W0.s : W0 → Str
  | .nothing => "nothing"
  | .never => "never"
def W1.s : W1 → Str
  | .sign => "sign"
  | .but => "but"
  | .name => "name"
  | .again => "again"
def WM.s : WM → Str
  | .row => "row"
  | .choice => "choice"
def WO.s : WO → Str
  | .many => "many"
  | .maybe => "maybe"
  | .ahead => "ahead"
  | .not => "not"
def W2.s : W2 → Str
  | .hold => "hold"
  | .tag => "tag"
  | .make => "make"
inductive Rdr where
  | l0 (w : W0)
  | l1 (w : W1) (x : Str)
  | ps (w : WM) (rs : List Rdr)
  | un (w : WO) (r : Rdr)
  | bi (w : W2) (x : Str) (r : Rdr)
mutual
def Rdr.toD : Rdr → D
  | .l0 w => .tuple [.str w.s]
  | .l1 w x => .tuple [.str w.s, .str x]
  | .ps w rs => .tuple [.str w.s, .tuple (toDs rs)]
  | .un w r => .tuple [.str w.s, r.toD]
  | .bi w x r => .tuple [.str w.s, .str x, r.toD]
def toDs : List Rdr → List D
  | [] => []
  | r :: rs => r.toD :: toDs rs
end
mutual
def Rdr.dep : Rdr → Nat
  | .l0 _ => 1
  | .l1 _ _ => 1
  | .ps _ rs => deps rs + 1
  | .un _ r => r.dep + 1
  | .bi _ _ r => r.dep + 1
def deps : List Rdr → Nat
  | [] => 0
  | r :: rs => max r.dep (deps rs)
end
mutual
/-- how many parts it has -/
def Rdr.cnt : Rdr → Nat
  | .l0 _ => 1
  | .l1 _ _ => 1
  | .ps _ rs => cnts rs + 1
  | .un _ r => r.cnt + 1
  | .bi _ _ r => r.cnt + 1
def cnts : List Rdr → Nat
  | [] => 0
  | r :: rs => r.cnt + cnts rs
end
/-- a text of at most n signs -/
def Tx (n : Nat) (x : Str) : Prop := x.length ≤ n ∧ okS x
theorem Tx.mono {a b : Nat} {x : Str} (h : Tx a x) (q : a ≤ b) : Tx b x := ⟨Nat.le_trans h.1 q, h.2⟩
mutual
def Rdr.good (n : Nat) : Rdr → Prop
  | .l0 _ => True
  | .l1 _ x => Tx n x
  | .ps _ rs => rs.length ≤ 6 ∧ goods n rs
  | .un _ r => r.good n
  | .bi _ x r => Tx n x ∧ r.good n
def goods (n : Nat) : List Rdr → Prop
  | [] => True
  | r :: rs => r.good n ∧ goods n rs
end
theorem toDs_map : ∀ rs : List Rdr, toDs rs = rs.map Rdr.toD
  | [] => rfl
  | r :: rs => by rw [toDs, toDs_map rs, List.map_cons]
theorem deps_le {n : Nat} : ∀ {rs : List Rdr}, deps rs ≤ n ↔ ∀ r ∈ rs, r.dep ≤ n
  | [] => by simp [deps]
  | r :: rs => by simp [deps, Nat.max_le, deps_le (rs := rs)]
theorem cnts_le {n : Nat} : ∀ {rs : List Rdr}, ∀ r ∈ rs, r.cnt ≤ cnts rs
  | [], r, h => by cases h
  | q :: rs, r, h => by
    rw [cnts]
    rcases List.mem_cons.mp h with rfl | h
    · omega
    · have := cnts_le (n := n) (rs := rs) r h; omega
theorem FnD.never {P : Program} {w : World} {K : Fg} {mg : Str → Option Value} {base : Heap} {k : Nat} {f : Addr} {fd : FuncData} {ps : List Str} {c : Ct} (h : ∀ as Q, ¬ c as Q) : FnD P w K mg base k f fd ps c :=
  ⟨fun A outer s H args us vs Q E hr hg he hb hv ⟨G, as, h1, h2, h3, h4, P, h5, h6⟩ => (h _ _ h5).elim⟩
theorem lc_list {vs : List Nat} {g : GT} {tt : MT} {te : ME} {P : List D → Rho → Prop} {r : Rho} {α : Type} (f gv : α → D) {as : List α} (h : ∀ a ∈ as, ∀ ds acc, acc.length < sizeLine → lcM vs g tt te P ds (acc ++ [gv a]) r → lcM vs g tt te P (f a :: ds) acc r)
    (hz : as.length < sizeLine) (hp : P (as.map gv) r) : Lc vs g tt te P (as.map f) [] r := by
  have go : ∀ (bs : List α) (acc : List D), (∀ b ∈ bs, b ∈ as) → acc.length + bs.length < sizeLine → P (acc ++ bs.map gv) r → lcM vs g tt te P (bs.map f) acc r := by
    intro bs
    induction bs with
    | nil => intro acc _ _ q; simpa [lcM] using q
    | cons b bs ih =>
      intro acc hm hl q
      simp only [List.length_cons] at hl
      refine h b (hm b List.mem_cons_self) _ acc (by omega) (ih _ (fun x hx => hm x (List.mem_cons_of_mem _ hx)) ?_ (by simpa using q))
      simp only [List.length_append, List.length_cons, List.length_nil]; omega
  exact ⟨go as [] (fun _ h => h) (by simpa using hz) (by simpa using hp)⟩
theorem strsOf_mapf {α : Type} (f : α → Str) : ∀ as : List α, strsOf (as.map fun a => PyData.str (f a)) = some (as.map f)
  | [] => rfl
  | a :: as => by simp [strsOf, strsOf_mapf f as]
theorem app_list (x y : Str) : (x ++ y).cps.toList = x.cps.toList ++ y.cps.toList := by
  show (x.cps ++ y.cps).toList = _
  simp
theorem app_len (x y : Str) : (x ++ y).length = x.length + y.length := by
  show (x.cps ++ y.cps).size = _
  simp [Str.length]
theorem strIn_one (c : Nat) (x : Str) : strIn ⟨#[c]⟩ x = decide (c ∈ x.cps.toList) := StrLaws.found_one x c
end DL
namespace DL
open PySem L2 PyProof.Rows
mutual
def wt : D → Nat
  | .none => 5
  | .bool _ => 6
  | .int _ => 60
  | .str x => 10 * x.length + 2
  | .list xs => wts xs + 4
  | .tuple xs => wts xs + 4
  | .dict kvs => wtk kvs + 4
def wts : List D → Nat
  | [] => 0
  | d :: ds => wt d + 2 + wts ds
def wtk : List (D × D) → Nat
  | [] => 0
  | (a, b) :: r => wt a + wt b + 4 + wtk r
end
mutual
/-- texts of signs, ints below 10^10 -/
def okD : D → Prop
  | .none => True
  | .bool _ => True
  | .int i => -100000000000000000000000000000000000000000000000000 < i ∧ i < 100000000000000000000000000000000000000000000000000
  | .str x => okS x
  | .list xs => okDs xs
  | .tuple xs => okDs xs
  | .dict kvs => okDk kvs
def okDs : List D → Prop
  | [] => True
  | d :: ds => okD d ∧ okDs ds
def okDk : List (D × D) → Prop
  | [] => True
  | (a, b) :: r => okD a ∧ okD b ∧ okDk r
end
theorem okDs_iff : ∀ {ds : List D}, okDs ds ↔ ∀ d ∈ ds, okD d
  | [] => by simp [okDs]
  | d :: ds => by simp [okDs, okDs_iff (ds := ds)]
theorem int_len {i : Int} (h : -100000000000000000000000000000000000000000000000000 < i ∧ i < 100000000000000000000000000000000000000000000000000) : (toString i : String).length ≤ 51 := by
  have hlt : i.natAbs < 10 ^ 50 := by
    have : (10 : Nat) ^ 50 = 100000000000000000000000000000000000000000000000000 := by decide
    omega
  have e := (Nat.length_repr_le_iff (n := i.natAbs) (by decide : 0 < 50)).mpr hlt
  cases i with
  | ofNat m =>
    have e2 : (toString (Int.ofNat m) : String) = Nat.repr m := rfl
    rw [e2]
    have : m = (Int.ofNat m).natAbs := rfl
    rw [this]; omega
  | negSucc m =>
    have e2 : (toString (Int.negSucc m) : String) = "-" ++ Nat.repr (m + 1) := rfl
    rw [e2, String.length_append]
    have : m + 1 = (Int.negSucc m).natAbs := rfl
    rw [this]
    have : ("-" : String).length = 1 := rfl
    omega
theorem str_len (x : String) : (x : Str).length = x.length := by
  show (Str.ofString x).cps.size = _
  simp [Str.ofString, cpsOfBytes_string, String.length_toList]
theorem joinL (sep : Str) : ∀ ts : List Str, (Str.join sep ts).length ≤ (ts.map fun t => t.length + sep.length).sum
  | [] => Nat.zero_le _
  | [x] => by simp [Str.join]
  | x :: y :: r => by
    have ih := joinL sep (y :: r)
    have e : (Str.join sep (x :: y :: r)).length = x.length + sep.length + (Str.join sep (y :: r)).length := by
      show (x ++ sep ++ Str.join sep (y :: r)).length = _
      rw [app_len, app_len]
    rw [e]
    simp only [List.map_cons, List.sum_cons] at ih ⊢
    omega
theorem textFromL : ∀ (ts : List Str) (k : Nat) (acc : Str), (textFrom k acc ts).length ≤ acc.length + (ts.map fun t => t.length + 2).sum
  | [], k, acc => by show acc.length ≤ _; simp
  | t :: r, k, acc => by
    have ih := textFromL r (k + 1) (acc ++ (if k > 0 then ", " else "" : String) ++ t)
    have e : (textFrom k acc (t :: r)) = textFrom (k + 1) (acc ++ (if k > 0 then ", " else "" : String) ++ t) r := rfl
    rw [e]
    have h2 : ((if k > 0 then ", " else "" : String) : Str).length ≤ 2 := by
      split
      · decide
      · decide
    rw [app_len, app_len] at ih
    simp only [List.map_cons, List.sum_cons]
    omega
mutual
theorem shown_le : ∀ d : D, okD d → d.shown.length ≤ wt d
  | .none, _ => by decide
  | .bool b, _ => by cases b <;> decide
  | .int i, h => by
    have := int_len h
    show ((toString i : String) : Str).length ≤ 60
    rw [str_len]; omega
  | .str x, h => by
    have := StrLaws.reprText_len x fun c hc => Nat.lt_of_lt_of_le (h c hc) (by decide)
    show (reprText x).length ≤ 10 * x.length + 2
    exact this
  | .list xs, h => by
    have := shownAll_le xs h
    show (textFrom 0 "[" (PyData.shownAll xs) ++ ("]" : Str)).length ≤ wts xs + 4
    have t := textFromL (PyData.shownAll xs) 0 ("[" : Str)
    rw [app_len, show (Str.ofString "]").length = 1 from rfl]
    rw [show (Str.ofString "[").length = 1 from rfl] at t
    omega
  | .tuple xs, h => by
    have := shownAll_le xs h
    show (("(" : Str) ++ Str.join ", " (PyData.shownAll xs) ++ (if (PyData.shownAll xs).length == 1 then ",)" else ")" : String)).length ≤ wts xs + 4
    have t := joinL ", " (PyData.shownAll xs)
    have h2 : ((if (PyData.shownAll xs).length == 1 then ",)" else ")" : String) : Str).length ≤ 2 := by
      split
      · decide
      · decide
    rw [app_len, app_len, show (Str.ofString "(").length = 1 from rfl]
    rw [show (Str.ofString ", ").length = 2 from rfl] at t
    omega
  | .dict kvs, h => by
    have := shownKv_le kvs h
    show (("{" : Str) ++ Str.join ", " (PyData.shownKv kvs) ++ ("}" : Str)).length ≤ wtk kvs + 4
    have t := joinL ", " (PyData.shownKv kvs)
    rw [app_len, app_len, show (Str.ofString "{").length = 1 from rfl, show (Str.ofString "}").length = 1 from rfl]
    rw [show (Str.ofString ", ").length = 2 from rfl] at t
    omega
theorem shownAll_le : ∀ ds : List D, okDs ds → ((PyData.shownAll ds).map fun t => t.length + 2).sum ≤ wts ds
  | [], _ => by simp [PyData.shownAll, wts]
  | d :: ds, h => by
    have h1 := shown_le d h.1
    have h2 := shownAll_le ds h.2
    simp only [PyData.shownAll, wts, List.map_cons, List.sum_cons]
    omega
theorem shownKv_le : ∀ ds : List (D × D), okDk ds → ((PyData.shownKv ds).map fun t => t.length + 2).sum ≤ wtk ds
  | [], _ => by simp [PyData.shownKv, wtk]
  | (a, b) :: ds, h => by
    have h1 := shown_le a h.1
    have h3 := shown_le b h.2.1
    have h2 := shownKv_le ds h.2.2
    simp only [PyData.shownKv, wtk, List.map_cons, List.sum_cons]
    rw [app_len, app_len, show (Str.ofString ": ").length = 2 from rfl]
    omega
end
theorem log_le {i : Int} (h : -100000000000000000000000000000000000000000000000000 < i ∧ i < 100000000000000000000000000000000000000000000000000) : i.natAbs.log2 < 1920 := by
  by_cases z : i.natAbs = 0
  · rw [z]; decide
  · have h1 : i.natAbs < 2 ^ 170 := by
      have : (2 : Nat) ^ 170 = 1496577676626844588240573268701473812127674924007424 := by decide
      omega
    have := (Nat.log2_lt z).mpr h1
    omega
mutual
theorem ok_showable : ∀ d : D, okD d → d.showable = true
  | .none, _ => rfl
  | .bool b, _ => rfl
  | .int i, h => decide_eq_true (log_le h)
  | .str x, _ => rfl
  | .list xs, h => ok_showableAll xs h
  | .tuple xs, h => ok_showableAll xs h
  | .dict kvs, h => ok_showableKv kvs h
theorem ok_showableAll : ∀ d : List D, okDs d → PyData.showableAll d = true
  | [], _ => rfl
  | d :: ds, h => by
    rw [PyData.showableAll, ok_showable d h.1, ok_showableAll ds h.2]; rfl
theorem ok_showableKv : ∀ d : List (D × D), okDk d → PyData.showableKv d = true
  | [], _ => rfl
  | (a, b) :: ds, h => by
    rw [PyData.showableKv, ok_showable a h.1, ok_showable b h.2.1, ok_showableKv ds h.2.2]; rfl
end
mutual
theorem ok_lay : ∀ d : D, okD d → d.hasDict = false → d.canLay0 = true
  | .none, _, _ => rfl
  | .bool b, _, _ => rfl
  | .int i, h, _ => rfl
  | .str x, h, _ => okS.ok h
  | .list xs, h, q => ok_layAll xs h (by simpa [PyData.hasDict] using q)
  | .tuple xs, h, q => ok_layAll xs h (by simpa [PyData.hasDict] using q)
  | .dict kvs, h, q => by simp [PyData.hasDict] at q
theorem ok_layAll : ∀ d : List D, okDs d → PyData.hasDictAll d = false → PyData.canLayAll0 d = true
  | [], _, _ => rfl
  | d :: ds, h, q => by
    simp only [PyData.hasDictAll, Bool.or_eq_false_iff] at q
    rw [PyData.canLayAll0, ok_lay d h.1 q.1, ok_layAll ds h.2 q.2]; rfl
end
theorem shaped_ok {d : D} (h : okD d) (h2 : d.depth ≤ 64) (h3 : d.hasDict = false) : SeqAt.shaped d = true := by
  unfold SeqAt.shaped
  rw [ok_lay d h h3, decide_eq_true h2]; rfl
theorem W0.ok (w : W0) : okS w.s ∧ w.s.length ≤ 8 := by cases w <;> exact ⟨okS_of (by decide +kernel), by decide⟩
theorem W1.ok (w : W1) : okS w.s ∧ w.s.length ≤ 8 := by cases w <;> exact ⟨okS_of (by decide +kernel), by decide⟩
theorem WM.ok (w : WM) : okS w.s ∧ w.s.length ≤ 8 := by cases w <;> exact ⟨okS_of (by decide +kernel), by decide⟩
theorem WO.ok (w : WO) : okS w.s ∧ w.s.length ≤ 8 := by cases w <;> exact ⟨okS_of (by decide +kernel), by decide⟩
theorem W2.ok (w : W2) : okS w.s ∧ w.s.length ≤ 8 := by cases w <;> exact ⟨okS_of (by decide +kernel), by decide⟩
mutual
theorem Rdr.okD {n : Nat} : ∀ r : Rdr, r.good n → DL.okD r.toD
  | .l0 w, _ => ⟨w.ok.1, trivial⟩
  | .l1 w x, h => ⟨w.ok.1, h.2, trivial⟩
  | .ps w rs, h => ⟨w.ok.1, goods_okD rs h.2, trivial⟩
  | .un w r, h => ⟨w.ok.1, Rdr.okD r h, trivial⟩
  | .bi w x r, h => ⟨w.ok.1, h.1.2, Rdr.okD r h.2, trivial⟩
theorem goods_okD {n : Nat} : ∀ rs : List Rdr, goods n rs → okDs (toDs rs)
  | [], _ => trivial
  | r :: rs, h => ⟨Rdr.okD r h.1, goods_okD rs h.2⟩
end
mutual
theorem Rdr.wt {n : Nat} : ∀ r : Rdr, r.good n → DL.wt r.toD ≤ (10 * n + 110) * r.cnt
  | .l0 w, _ => by
    have := w.ok.2
    simp only [Rdr.toD, DL.wt, wts, Rdr.cnt]; omega
  | .l1 w x, h => by
    have := w.ok.2
    have := h.1
    simp only [Rdr.toD, DL.wt, wts, Rdr.cnt]; omega
  | .ps w rs, h => by
    have := w.ok.2
    have := goods_wt rs h.2
    have h6 := h.1
    simp only [Rdr.toD, DL.wt, wts, Rdr.cnt, Nat.mul_succ]; omega
  | .un w r, h => by
    have := w.ok.2
    have := Rdr.wt r h
    simp only [Rdr.toD, DL.wt, wts, Rdr.cnt, Nat.mul_succ]; omega
  | .bi w x r, h => by
    have := w.ok.2
    have := Rdr.wt r h.2
    have := h.1.1
    simp only [Rdr.toD, DL.wt, wts, Rdr.cnt, Nat.mul_succ]; omega
theorem goods_wt {n : Nat} : ∀ rs : List Rdr, goods n rs → wts (toDs rs) ≤ (10 * n + 110) * cnts rs + 2 * rs.length
  | [], _ => by simp [toDs, wts]
  | r :: rs, h => by
    have h1 := Rdr.wt r h.1
    have h2 := goods_wt rs h.2
    simp only [toDs, wts, cnts, List.length_cons, Nat.mul_add]; omega
end
mutual
theorem Rdr.depth : ∀ r : Rdr, r.toD.depth ≤ 2 * r.dep
  | .l0 w => by simp [Rdr.toD, PyData.depth, PyData.depthAll, Rdr.dep]
  | .l1 w x => by simp [Rdr.toD, PyData.depth, PyData.depthAll, Rdr.dep]
  | .ps w rs => by
    have := depths rs
    simp [Rdr.toD, PyData.depth, PyData.depthAll, Rdr.dep]; omega
  | .un w r => by
    have := Rdr.depth r
    simp [Rdr.toD, PyData.depth, PyData.depthAll, Rdr.dep]; omega
  | .bi w x r => by
    have := Rdr.depth r
    simp [Rdr.toD, PyData.depth, PyData.depthAll, Rdr.dep]; omega
theorem depths : ∀ rs : List Rdr, PyData.depthAll (toDs rs) ≤ 2 * deps rs
  | [] => by simp [toDs, PyData.depthAll]
  | r :: rs => by
    have h1 := Rdr.depth r
    have h2 := depths rs
    simp only [toDs, PyData.depthAll, deps]; omega
end
mutual
theorem Rdr.noDict : ∀ r : Rdr, r.toD.hasDict = false
  | .l0 w => by simp [Rdr.toD, PyData.hasDict, PyData.hasDictAll]
  | .l1 w x => by simp [Rdr.toD, PyData.hasDict, PyData.hasDictAll]
  | .ps w rs => by simp [Rdr.toD, PyData.hasDict, PyData.hasDictAll, noDicts rs]
  | .un w r => by simp [Rdr.toD, PyData.hasDict, PyData.hasDictAll, Rdr.noDict r]
  | .bi w x r => by simp [Rdr.toD, PyData.hasDict, PyData.hasDictAll, Rdr.noDict r]
theorem noDicts : ∀ rs : List Rdr, PyData.hasDictAll (toDs rs) = false
  | [] => by simp [toDs, PyData.hasDictAll]
  | r :: rs => by simp [toDs, PyData.hasDictAll, Rdr.noDict r, noDicts rs]
end
theorem hasDictAll_iff : ∀ {ds : List D}, PyData.hasDictAll ds = false ↔ ∀ d ∈ ds, d.hasDict = false
  | [] => by simp [PyData.hasDictAll]
  | d :: ds => by simp [PyData.hasDictAll, hasDictAll_iff (ds := ds)]
theorem depthAll_le {n : Nat} : ∀ {ds : List D}, PyData.depthAll ds ≤ n ↔ ∀ d ∈ ds, d.depth ≤ n
  | [] => by simp [PyData.depthAll]
  | d :: ds => by simp [PyData.depthAll, Nat.max_le, depthAll_le (ds := ds)]
end DL
namespace DL
open PySem L2 PyProof.Rows
theorem lp_by {g : GT} {body : MS} {O : Out} {ds : List D} {r : Rho} (I : List D → Rho → Prop) (hi : I ds r) (h : ∀ d ds r, I (d :: ds) r → (∀ r', I ds r' → loopM g body ds r' O) → loopM g body (d :: ds) r O) (h0 : ∀ r, I [] r → O.nx r) : Lp g body ds r O := ⟨loop_by I h h0 ds r hi⟩
theorem lcc_by {vs : List Nat} {g : GT} {tt : MT} {te : ME} {P : List D → Rho → Prop} {ds acc : List D} {r : Rho} (I : List D → List D → Rho → Prop) (hi : I ds acc r) (h : ∀ d ds acc r, I (d :: ds) acc r → (∀ acc' r', I ds acc' r' → lcM vs g tt te P ds acc' r') → lcM vs g tt te P (d :: ds) acc r) (h0 : ∀ acc r, I [] acc r → P acc r) : Lc vs g tt te P ds acc r := ⟨lc_by I h h0 ds acc r hi⟩
theorem range_len (lo : Int) (n : Nat) : (rangeD lo n).length = n := by simp [rangeD]
theorem flatD_strs (xs : List Str) : (xs.map PyData.str).all flatD = true := by
  induction xs with
  | nil => rfl
  | cons x xs ih => simp [flatD, ih]
end DL
namespace DL
open PySem L2 PyProof.Rows
inductive Sqn where
  | L (a : Addr) (xs : List V) | T (a : Addr) (xs : List V) | S (x : Str)
def Sqn.holds (K : Fg) (H : Hp) : Sqn → Prop
  | .L a xs => SqL K H a xs
  | .T a xs => SqT K H a xs
  | .S _ => True
def Sqn.items : Sqn → List V
  | .L _ xs => xs
  | .T _ xs => xs
  | .S x => x.cps.toList.map fun c => V.str ⟨#[c]⟩
def Sqn.v : Sqn → V
  | .L a _ => .ref a
  | .T a _ => .ref a
  | .S x => .str x
def Sqn.tn (c : Sqn) (it : Addr) (i : Nat) (h : Heap) : Prop := match c with
  | .L a _ => h.IsListIter it a i
  | .T a _ => h.IsTupleIter it a i
  | .S x => ∃ t, h.IsStrIter it (strIterType x) x t i
def Sqn.ap (c : Sqn) (b : Addr) : Prop := match c with
  | .L a _ => a ≠ b
  | .T a _ => a ≠ b
  | .S _ => True
theorem Sqn.tn.obj {c : Sqn} {it : Addr} {i : Nat} {h : Heap} (t : c.tn it i h) : ∃ o, h.get? it = some o ∧ ∀ v, o.data ≠ .cell v := by
  cases c with
  | L a xs => obtain ⟨o, e, _, d⟩ := t; exact ⟨o, e, fun v q => by rw [d] at q; cases q⟩
  | T a xs => obtain ⟨o, e, _, d⟩ := t; exact ⟨o, e, fun v q => by rw [d] at q; cases q⟩
  | S x => obtain ⟨_, o, e, _, d⟩ := t; exact ⟨o, e, fun v q => by rw [d] at q; cases q⟩
theorem Sqn.tn.at {c : Sqn} {it : Addr} {i : Nat} {h h' : Heap} (t : c.tn it i h) (k : ∀ o, h.get? it = some o → h'.get? it = some o) : c.tn it i h' := by
  cases c with
  | L a xs => exact Heap.IsListIter.at t k
  | T a xs => exact Heap.IsTupleIter.at t k
  | S x => obtain ⟨u, o, e, r⟩ := t; exact ⟨u, o, k o e, r⟩
theorem Sqn.draws {X : Cx} {pins : List (Addr × Obj)} {σ : L2.St} {H : Hp} {s : Shared} {A : Around} (I : Inv X pins σ H s) (hh : A.handled = none) {c : Sqn} (h : c.holds X.K H) {it : Addr} {i : Nat} (ha : c.ap it) (t : c.tn it i s.heap) :
    ∃ (fp : List Addr) (P : Nat → Value → Prop) (St : Nat → Heap → Prop), Draws X.prog X.w A it fp c.items.length P St ∧ St i s.heap ∧ it ∈ fp ∧ (∀ j u, P j u → ∃ v, c.items[j]? = some v ∧ RelV v u) ∧ (∀ j h, St j h → c.tn it j h) ∧ ∀ b, b ≠ it → c.ap b → b ∉ fp := by
  cases c with
  | L a xs =>
    obtain ⟨its, rv, p, _⟩ := I.list h
    have hl := rv.length
    have D := Draws.list (prog := X.prog) (w := X.w) hh it a ha its.toArray
    rw [List.size_toArray, ← hl] at D
    refine ⟨_, _, _, D, ⟨t, p.isList⟩, by simp, fun j u q => ?_, fun j h q => q.1, fun b h1 h2 => ?_⟩
    · have q' : its[j]? = some u := by simpa using q
      cases e : xs[j]? with
      | none => rw [vals_none rv e] at q'; cases q'
      | some v =>
        obtain ⟨u', e1, e2⟩ := rv.get e
        rw [q'] at e1; cases e1
        exact ⟨v, e, e2⟩
    · have h2' : a ≠ b := h2
      simp only [List.mem_cons, List.not_mem_nil, or_false, not_or]
      exact ⟨h1, fun e => h2' e.symm⟩
  | T a xs =>
    obtain ⟨its, rv, p, _⟩ := I.tuple h
    have hl := rv.length
    have D := Draws.tuple (prog := X.prog) (w := X.w) hh it a ha its.toArray
    rw [List.size_toArray, ← hl] at D
    refine ⟨_, _, _, D, ⟨t, p⟩, by simp, fun j u q => ?_, fun j h q => q.1, fun b h1 h2 => ?_⟩
    · have q' : its[j]? = some u := by simpa using q
      cases e : xs[j]? with
      | none => rw [vals_none rv e] at q'; cases q'
      | some v =>
        obtain ⟨u', e1, e2⟩ := rv.get e
        rw [q'] at e1; cases e1
        exact ⟨v, e, e2⟩
    · have h2' : a ≠ b := h2
      simp only [List.mem_cons, List.not_mem_nil, or_false, not_or]
      exact ⟨h1, fun e => h2' e.symm⟩
  | S x =>
    obtain ⟨u, t⟩ := t
    have D := Draws.text (prog := X.prog) (w := X.w) hh it x u
    have hl : (Sqn.S x).items.length = x.cps.size := by simp [Sqn.items]
    rw [← hl] at D
    refine ⟨_, _, _, D, t, by simp, fun j v q => ?_, fun j h q => ⟨u, q⟩, fun b h1 h2 => by simpa using h1⟩
    obtain ⟨c, w, e1, rfl⟩ := q
    refine ⟨.str ⟨#[c]⟩, ?_, ⟨w, rfl⟩⟩
    simp only [Sqn.items, List.getElem?_map, Array.getElem?_toList, e1, Option.map_some]
def ItzG (K : Fg) (c1 c2 : Sqn) : It :=
  ⟨fun i H => c1.holds K H ∧ c2.holds K H ∧ i < c1.items.length ∧ i < c2.items.length,
    fun i H v H' => ∃ T x y o, v = .ref T ∧ H T = none ∧ o.dict = none ∧ H' = upd H T (tupO o [x, y]) ∧ c1.items[i]? = some x ∧ c2.items[i]? = some y,
    fun i H => c1.holds K H ∧ c2.holds K H ∧ (c1.items.length ≤ i ∨ c2.items.length ≤ i)⟩
/-- the cells of a zip lie apart -/
structure ZAp (z TI TO i1 i2 : Addr) (c1 c2 : Sqn) : Prop where
  TIz : TI ≠ z
  TOz : TO ≠ z
  TITO : TI ≠ TO
  TIi1 : TI ≠ i1
  TIi2 : TI ≠ i2
  TOi1 : TO ≠ i1
  TOi2 : TO ≠ i2
  i1z : i1 ≠ z
  i2z : i2 ≠ z
  i12 : i1 ≠ i2
  p1 : ∀ b ∈ [z, TI, TO, i1, i2], c1.ap b
  p2 : ∀ b ∈ [z, TI, TO, i1, i2], c2.ap b
theorem ZAp.sep {z TI TO i1 i2 : Addr} {c1 c2 : Sqn} {fp1 fp2 : List Addr} (D : ZAp z TI TO i1 i2 c1 c2) (m1 : i1 ∈ fp1) (m2 : i2 ∈ fp2) (n1 : ∀ b, b ≠ i1 → c1.ap b → b ∉ fp1) (n2 : ∀ b, b ≠ i2 → c2.ap b → b ∉ fp2) : ZipSep2 z TI TO i1 i2 fp1 fp2 where
  TIz := D.TIz
  TOz := D.TOz
  TITO := D.TITO
  TIi1 := D.TIi1
  mem1 := m1
  zf1 := n1 z (Ne.symm D.i1z) (D.p1 z (by simp))
  Tf1 := n1 TO D.TOi1 (D.p1 TO (by simp))
  TIi2 := D.TIi2
  mem2 := m2
  zf2 := n2 z (Ne.symm D.i2z) (D.p2 z (by simp))
  Tf2 := n2 TO D.TOi2 (D.p2 TO (by simp))
  sep1_2 := n2 i1 D.i12 (D.p2 i1 (by simp))
  sep2_1 := n1 i2 (Ne.symm D.i12) (D.p1 i2 (by simp))
theorem turn_zipG {P : Program} {w : World} {K : Fg} {elts : List Expr} {kk : Nat} {tpos : Pos} {z TI TO i1 i2 : Addr} {c1 c2 : Sqn} (D : ZAp z TI TO i1 i2 c1 c2) :
    Turn P w K (.Tuple elts kk tpos) (ItzG K c1 c2) [z, TI, TO, i1, i2] z (fun i h => IsZip h z TI TO .none ∧ IsTupOf2 h TI (.ref i1) (.ref i2) ∧ (∃ x y, IsTupOf2 h TO x y) ∧ c1.tn i1 i h ∧ c2.tn i2 i h ∧ i ≤ c1.items.length ∧ i ≤ c2.items.length) where
  mem := by simp
  obj := fun i h st c hc => by
    obtain ⟨hz, hTI, ⟨x, y, hTO⟩, t1, t2, _⟩ := st
    have e' : c = z ∨ c = TI ∨ c = TO ∨ c = i1 ∨ c = i2 := by simpa using hc
    rcases e' with q | q | q | q | q
    · rw [q]; exact ⟨_, hz, fun v q => nomatch q⟩
    · rw [q]; exact ⟨_, hTI, fun v q => nomatch q⟩
    · rw [q]; exact ⟨_, hTO, fun v q => nomatch q⟩
    · rw [q]; exact t1.obj
    · rw [q]; exact t2.obj
  keep := fun i h h' st k => by
    obtain ⟨hz, hTI, ⟨x, y, hTO⟩, h1, h2, h3⟩ := st
    exact ⟨k z (by simp) _ hz, k TI (by simp) _ hTI, ⟨x, y, k TO (by simp) _ hTO⟩, h1.at fun o q => k i1 (by simp) o q, h2.at fun o q => k i2 (by simp) o q, h3⟩
  item := by
    intro X hP hw hK hc i pins s σ H E I hf st hg
    subst hP hw hK
    obtain ⟨hz, hTI, ⟨x0, y0, hTO⟩, h1, h2, _⟩ := st
    obtain ⟨g1, g2, l1, l2⟩ := hg
    have hh : X.A.in1.handled = none := I.ok.hd hc
    obtain ⟨fp1, P1, St1, D1, st1, m1, r1, b1, n1⟩ := Sqn.draws I hh g1 (D.p1 i1 (by simp)) h1
    obtain ⟨fp2, P2, St2, D2, st2, m2, r2, b2, n2⟩ := Sqn.draws I hh g2 (D.p2 i2 (by simp)) h2
    have hzl : z < s.heap.objs.size := Heap.lt_size hz
    refine wpAny_pyNext_zipD2_item (D.sep m1 m2 n1 n2) D1 D2 hz hTI hTO st1 st2 l1 l2 fun u u2 h' tk p1 p2 z' TO' h1' h2' hT hsz hk => ?_
    obtain ⟨x, ex, ru⟩ := r1 i u p1
    obtain ⟨y, ey, ru2⟩ := r2 i u2 p2
    refine ⟨_, rfl, wpAny_letOwnedTupleGo_zip (s := { s with heap := h', toks := tk }) z' fun h'' z'' sb => ?_⟩
    have hT2 : h''.get? s.heap.objs.size = some { cls := .type "tuple", data := .seq #[u, u2] } := (sb.2 _ (Nat.ne_of_gt hzl)).trans hT
    have new : ObjOk X.prog X.w (upd H s.heap.objs.size (tupO (tobj [u, u2]) [x, y])) h'' s.heap.objs.size (tupO (tobj [u, u2]) [x, y]) :=
      tupO_ok (.cons ru (.cons ru2 .nil)) (by show 2 ≤ sizeLine; decide) hT2
    have I1 : Inv X pins σ (upd H s.heap.objs.size (tupO (tobj [u, u2]) [x, y])) { s with heap := h'', toks := tk } :=
      I.turnedNew (t' := tk) (ch := [z, TI, TO, i1, i2]) (fun c o hb q => (sb.2 c (fun q' => hb (by simp [q']))).trans (hk c o (fun q' => hb (by simp [q'])) (fun q' => hb (by simp [q'])) (fun q' => hb (by simp [q'])) (fun q' => hb (by simp [q'])) q)) hf (Nat.le_refl _) new
    refine ⟨.ref s.heap.objs.size, _, I1, rfl, ⟨_, x, y, _, rfl, I.hok.fresh (Nat.le_refl _), rfl, rfl, ex, ey⟩, ⟨z'', ?_, ⟨u, u2, ?_⟩, ?_, ?_, l1, l2⟩, fun c hcm => ?_⟩
    · exact (sb.2 _ D.TIz).trans (hk _ _ D.TIz D.TITO D.TIi1 D.TIi2 hTI)
    · exact (sb.2 _ D.TOz).trans TO'
    · exact (b1 _ _ h1').at fun o q => (sb.2 _ D.i1z).trans q
    · exact (b2 _ _ h2').at fun o q => (sb.2 _ D.i2z).trans q
    · have hlt : c < s.heap.objs.size := by
        have e' : c = z ∨ c = TI ∨ c = TO ∨ c = i1 ∨ c = i2 := by simpa using hcm
        rcases e' with q | q | q | q | q
        · rw [q]; exact hzl
        · rw [q]; exact Heap.lt_size hTI
        · rw [q]; exact Heap.lt_size hTO
        · rw [q]; obtain ⟨_, e1, _⟩ := h1.obj; exact Heap.lt_size e1
        · rw [q]; obtain ⟨_, e2, _⟩ := h2.obj; exact Heap.lt_size e2
      rw [upd_ne (Nat.ne_of_lt hlt)]
      exact (hf c hcm).1
  done := by
    intro X hP hw hK hc i pins s σ H E I hf st hg
    subst hP hw hK
    obtain ⟨hz, hTI, ⟨x0, y0, hTO⟩, h1, h2, l1, l2⟩ := st
    obtain ⟨g1, g2, he⟩ := hg
    have hh : X.A.in1.handled = none := I.ok.hd hc
    obtain ⟨fp1, P1, St1, D1, st1, m1, r1, b1, n1⟩ := Sqn.draws I hh g1 (D.p1 i1 (by simp)) h1
    obtain ⟨fp2, P2, St2, D2, st2, m2, r2, b2, n2⟩ := Sqn.draws I hh g2 (D.p2 i2 (by simp)) h2
    exact wpAny_pyNext_zipD2_end (D.sep m1 m2 n1 n2) D1 D2 hz hTI hTO st1 st2 l1 l2 (by omega) fun h' tk hk => ⟨rfl, I.turnedL (t' := tk) (ch := [z, TI, TO, i1, i2]) (fun c o hb q =>
      hk c o (fun q' => hb (by simp [q'])) (fun q' => hb (by simp [q'])) (fun q' => hb (by simp [q'])) (fun q' => hb (by simp [q'])) q) hf⟩
  self := fun A i s Q E st h => wpAny_pyIter_zip st.1 h
/-- the iterator of such a thing -/
theorem Sqn.begins {X : Cx} {pins : List (Addr × Obj)} {σ : L2.St} {H : Hp} {s : Shared} (I : Inv X pins σ H s) {c : Sqn} (h : c.holds X.K H) {u : Value} (r : RelV c.v u) :
    ∃ (o : Obj) (G : Heap → Prop), Begins u o G ∧ G s.heap ∧ (∀ (h : Heap) (it : Addr), h.get? it = some o → c.tn it 0 h) ∧ ∀ b, s.heap.objs.size ≤ b → c.ap b := by
  cases c with
  | L a xs =>
    obtain ⟨its, rv, p, _⟩ := I.list h
    obtain rfl : u = Value.ref a := r
    exact ⟨_, _, begins_list a its.toArray, p.isList, fun h it e => ⟨_, e, rfl, rfl⟩, fun b hb => Nat.ne_of_lt (Nat.lt_of_lt_of_le p.lt hb)⟩
  | T a xs =>
    obtain ⟨its, rv, p, _⟩ := I.tuple h
    obtain rfl : u = Value.ref a := r
    obtain ⟨o1, ho1, _⟩ := id p
    exact ⟨_, _, begins_tuple a its.toArray, p, fun h it e => ⟨_, e, rfl, rfl⟩, fun b hb => Nat.ne_of_lt (Nat.lt_of_lt_of_le (Heap.lt_size ho1) hb)⟩
  | S x =>
    obtain ⟨t, rfl⟩ := r
    exact ⟨_, _, begins_text x t, trivial, fun h it e => ⟨t, _, e, rfl, rfl⟩, fun _ _ => trivial⟩
def iZipG (K : Fg) (ta : TA) : TI := fun σ H R => ta σ H fun vs H1 => ∃ c1 c2 : Sqn, vs = [c1.v, c2.v] ∧ c1.holds K H1 ∧ c2.holds K H1 ∧ R (ItzG K c1 c2) H1
theorem pi_zipG {X : Cx} {e e2 : Expr} {ta : TA} {p pos tpos : Pos} {elts : List Expr} {kk : Nat} (hg : Gl X "zip") (hm : X.mg "zip" = none) (ha : PA X [e, e2] ta)
    (hs : starEach [e, e2] X.env = (false, eval e X.env) :: starEach [e2] X.env := by rfl) (hpl : (backTo pos (starEach [e2] X.env)).any (·.1) = false := by rfl) :
    PI X (.Tuple elts kk tpos) (.Call (.Name "zip" p) [e, e2] [] pos) (iZipG X.K ta) := by
  refine ⟨fun pins s σ H R I h => ?_⟩
  refine Call_ (ld_blt I hg hm PyProof.Rows.boot_zip (PyProof.Rows.callWith_type1 (thn (ha.run pos pins s σ H _ I h) fun us s1 ⟨vs, H1, I1, r1, q1⟩ => ?_) hs hpl))
  obtain ⟨c1, c2, ex, g1, g2, q⟩ := q1
  subst ex
  cases r1 with
  | cons r rr =>
    cases rr with
    | cons r' rr =>
      cases rr
      obtain ⟨o1, G1, B1, w1, t1, a1⟩ := Sqn.begins I1 g1 r
      obtain ⟨o2, G2, B2, w2, t2, a2⟩ := Sqn.begins I1 g2 r'
      have le5 : ∀ c, c ∈ [s1.heap.objs.size + 4, s1.heap.objs.size + 2, s1.heap.objs.size + 3, s1.heap.objs.size, s1.heap.objs.size + 1] → s1.heap.objs.size ≤ c := fun c hcm => by
        simp only [List.mem_cons, List.not_mem_nil, or_false] at hcm
        omega
      refine zip_begins2 B1 B2 w1 w2 fun h' hz hTI hTO h1 h2 hsz hk => wpAny_pyIter_zip hz ?_
      have I2 : Inv X pins σ H1 { s1 with heap := h' } := I1.kept (t' := s1.toks) hk
      have D : ZAp (s1.heap.objs.size + 4) (s1.heap.objs.size + 2) (s1.heap.objs.size + 3) s1.heap.objs.size (s1.heap.objs.size + 1) c1 c2 := by
        refine ⟨?_, ?_, ?_, ?_, ?_, ?_, ?_, ?_, ?_, ?_, fun b hb => a1 b (le5 b hb), fun b hb => a2 b (le5 b hb)⟩ <;> (intro e; have e' : (_ : Nat) = _ := e; omega)
      exact ⟨s1.heap.objs.size + 4, [s1.heap.objs.size + 4, s1.heap.objs.size + 2, s1.heap.objs.size + 3, s1.heap.objs.size, s1.heap.objs.size + 1], _, _, H1, rfl, I2, turn_zipG D, ⟨hz, hTI, ⟨_, _, hTO⟩, t1 _ _ h1, t2 _ _ h2, Nat.zero_le _, Nat.zero_le _⟩, fun c hcm => I1.fpOk (le5 c hcm) (I1.hok.fresh (le5 c hcm)), q⟩
def zipD : List D → List D → List D
  | a :: as, b :: bs => .tuple [a, b] :: zipD as bs
  | _, _ => []
theorem zipD_get : ∀ {as bs : List D} {i : Nat} {a b : D}, as[i]? = some a → bs[i]? = some b → (zipD as bs)[i]? = some (.tuple [a, b])
  | [], _, _, _, _, h, _ => by simp at h
  | _ :: _, [], _, _, _, _, h => by simp at h
  | a :: as, b :: bs, 0, _, _, h, g => by simp at h g; subst h g; rfl
  | a :: as, b :: bs, i + 1, x, y, h, g => by
    simpa [zipD] using zipD_get (i := i) (as := as) (bs := bs) (a := x) (b := y) (by simpa using h) (by simpa using g)
theorem zipD_len : ∀ {as bs : List D}, (zipD as bs).length = min as.length bs.length
  | [], _ => by simp [zipD]
  | _ :: _, [] => by simp [zipD]
  | a :: as, b :: bs => by simp only [zipD, List.length_cons, zipD_len (as := as) (bs := bs)]; omega
/-- what is walked, as such a thing that stands in F -/
theorem Rp.sqn {K : Fg} {F : Hp} {v : V} {d : D} {ds : List D} (h : Rp K F v d) (q : itemsD d = some ds) : ∃ c : Sqn, v = c.v ∧ c.holds K F ∧ RpA K F c.items ds := by
  cases h with
  | lst a r => cases q; exact ⟨.L _ _, rfl, .inl a, r⟩
  | tup a r => cases q; exact ⟨.T _ _, rfl, a.sqT, r⟩
  | str x =>
    cases q
    refine ⟨.S x, rfl, trivial, ?_⟩
    show RpA K F (x.cps.toList.map fun c => V.str ⟨#[c]⟩) (x.cps.toList.map fun c => PyData.str ⟨#[c]⟩)
    induction x.cps.toList with
    | nil => exact .nil
    | cons c cs ih => exact .cons (.str _) ih
  | non => cases q
  | bl => cases q
  | int => cases q
  | dct => cases q
theorem Sqn.up {K : Fg} {F H : Hp} (s : Sub F H) {c : Sqn} (h : c.holds K F) : c.holds K H := by
  cases c with
  | L a xs => exact s.sqL h
  | T a xs => exact s.sqT h
  | S x => trivial
theorem itok_zip {K : Fg} {F : Hp} {c1 c2 : Sqn} {as bs : List D} (h1 : c1.holds K F) (h2 : c2.holds K F) (r1 : RpA K F c1.items as) (r2 : RpA K F c2.items bs) : ItOk K F (ItzG K c1 c2) (zipD as bs) where
  go := fun i H s hi => by
    rw [zipD_len] at hi
    refine ⟨Sqn.up s h1, Sqn.up s h2, ?_, ?_⟩
    · rw [r1.length]; omega
    · rw [r2.length]; omega
  stop := fun i H s hi => by
    rw [zipD_len] at hi
    refine ⟨Sqn.up s h1, Sqn.up s h2, ?_⟩
    rw [r1.length, r2.length]; omega
  yld := fun i H x H' y e G r s k sub hi => by
    obtain ⟨T, u, v, o, rfl, hT, hd, rfl, e1, e2⟩ := y
    obtain ⟨d1, q1, p1⟩ := r1.get e1
    obtain ⟨d2, q2, p2⟩ := r2.get e2
    refine ⟨_, zipD_get q1 q2, upd G T (tupO o [u, v]), k.lay hT, Sub.new (k.free hT).1, ?_⟩
    have r2 : RpA K G [u, v] [d1, d2] := .cons (p1.mono sub) (.cons (p2.mono sub) .nil)
    exact .tup (TpOk.new hd r2) (r2.mono (Sub.new (k.free hT).1))
def iZip (ma mb : ME) : MI := fun r P => ma r fun x r1 => mb r1 fun y r2 => onP (holds r2 [x.tmp, y.tmp]) fun qs qb => match qs with
  | [d1, d2] => onO (itemsD d1) fun as => onO (itemsD d2) fun bs => strict qb fun r3 => P (zipD as bs) r3
  | _ => False
theorem di_zip {X : Cx} {a b : Expr} {ma mb : ME} {p pos tpos : Pos} {elts : List Expr} {kk : Nat} (hg : Gl X "zip") (hm : X.mg "zip" = none) (ha : DE X a ma) (hb : DE X b mb)
    (h1 : starEach [a, b] X.env = (false, eval a X.env) :: starEach [b] X.env := by rfl) (h2 : starEach [b] X.env = (false, eval b X.env) :: starEach [] X.env := by rfl) (hpl : (backTo pos (starEach [b] X.env)).any (·.1) = false := by rfl) :
    DI X (.Tuple elts kk tpos) (.Call (.Name "zip" p) [a, b] [] pos) (iZip ma mb) := fun e =>
  PI.imp (pi_zipG hg hm (da_cons ha (da_cons hb da_nil h2) h1 e) h1 hpl) fun s H Q ⟨F, r, k, P, hm, hP⟩ => by
    refine ⟨F, r, k, fun xs r2 => onP (holds r2 xs) fun qs qb => match qs with
      | [d1, d2] => onO (itemsD d1) fun as => onO (itemsD d2) fun bs => strict qb fun r3 => P (zipD as bs) r3
      | _ => False, hm, ?_⟩
    · intro xs r2 vs F2 H2 hx k2 q2 t2
      obtain ⟨qs, qb, e1, hq⟩ := onP.ex hx
      obtain ⟨F3, k3, q3, rp⟩ := RTs.holds t2 k2 e1
      cases rp with
      | nil => exact hq.elim
      | cons p1 rp =>
        cases rp with
        | nil => exact hq.elim
        | cons p2 rp =>
          cases rp with
          | cons _ _ => exact hq.elim
          | nil =>
            obtain ⟨as, ea, h1⟩ := onO.ex hq
            obtain ⟨bs, eb, h2⟩ := onO.ex h1
            obtain ⟨c1, rfl, g1, r1⟩ := p1.sqn ea
            obtain ⟨c2, rfl, g2, r2⟩ := p2.sqn eb
            exact ⟨c1, c2, rfl, Sqn.up k3.sub g1, Sqn.up k3.sub g2, hP _ _ F3 H2 _ h2.ex k3 (q2.trans q3) (itok_zip g1 g2 r1 r2)⟩
def ltOf : D → Option (List D)
  | .list ds => some ds
  | _ => none
theorem ltOf_of {d : D} {ds : List D} (h : ltOf d = some ds) : d = .list ds := by
  cases d <;> first | (cases h; rfl) | cases h
end DL
namespace DL
open PySem L2 PyProof.Rows
section
variable {K : Fg} {e : En} {F : Hp} {r : Rho} {s : L2.St} {H : Hp}
/-- a new object as one more slot -/
theorem Ok.ext {p : Addr} {o : HO} {m : MB} (k : Ok K e F r s H) (h1 : H p = some o) (h2 : MO K F o m) (h3 : F p = none) (h4 : e.P p = none) (h5 : ¬ e.old p)
    (h6 : NB r s p) : Ok K e F (r ++ [some (.box false m)]) (s ++ [some (.ref p)]) H := by
  have get : ∀ {α : Type} {l : List α} {x y : α} {i : Nat}, (l ++ [x])[i]? = some y → l[i]? = some y ∨ (i = l.length ∧ x = y) := by
    intro α l x y i h
    rw [List.getElem?_append] at h
    split at h
    · exact .inl h
    · rename_i q
      cases z : i - l.length with
      | zero => rw [z] at h; simp at h; exact .inr ⟨by omega, h⟩
      | succ j => rw [z] at h; simp at h
  have put : ∀ {α : Type} {l : List α} {x y : α} {i : Nat}, l[i]? = some y → (l ++ [x])[i]? = some y := by
    intro α l x y i h
    rw [List.getElem?_append_left (List.getElem?_eq_some_iff.mp h).1]; exact h
  have last : (s ++ [some (V.ref p)])[r.length]? = some (some (V.ref p)) := by rw [k.len]; simp
  refine ⟨by rw [List.length_append, List.length_append, k.len]; rfl, k.sub, k.f0, k.prot, k.new, k.dom, fun i d z => ?_, fun i b m' z => ?_, fun i ns z => ?_, fun i j q b m1 b' m2 z z' y y' => ?_, fun i n a z => ?_, fun i G z => ?_, k.gpF⟩
  · rcases get z with z | ⟨_, z⟩
    · obtain ⟨v, g1, g2⟩ := k.slot i d z; exact ⟨v, put g1, g2⟩
    · cases z
  · rcases get z with z | ⟨rfl, zz⟩
    · obtain ⟨q, u, g1, g2⟩ := k.box i b m' z; exact ⟨q, u, put g1, g2.1, g2.2.1, g2.2.2.1, g2.2.2.2.1, g2.2.2.2.2⟩
    · cases zz
      exact ⟨p, o, last, h1, h2, h3, h4, fun _ => h5, fun q => by cases q⟩
  · rcases get z with z | ⟨_, z⟩
    · obtain ⟨a, g1, g2⟩ := k.ob i ns z; exact ⟨a, put g1, g2⟩
    · cases z
  · have sl : ∀ {i : Nat} {b : Bool} {m : MB}, r[i]? = some (some (Ce.box b m)) → (s ++ [some (V.ref p)])[i]? = some (some (V.ref q)) → s[i]? = some (some (V.ref q)) := by
      intro i b m z y
      rcases get y with y | ⟨y, _⟩
      · exact y
      · have := (List.getElem?_eq_some_iff.mp z).1
        rw [k.len] at this; omega
    rcases get z with z | ⟨rfl, z⟩
    · rcases get z' with z' | ⟨rfl, z'⟩
      · exact k.sep i j q b m1 b' m2 z z' (sl z y) (sl z' y')
      · rw [last] at y'; cases y'
        exact absurd (sl z y) (h6.1 i b m1 z)
    · rw [last] at y; cases y
      rcases get z' with z' | ⟨rfl, z'⟩
      · exact absurd (sl z' y') (h6.1 j b' m2 z')
      · rfl
  · rcases get z with z | ⟨_, z⟩
    · exact put (k.adr i n a z)
    · cases z
  · rcases get z with z | ⟨_, z⟩
    · obtain ⟨g1, g2, g3⟩ := k.gh i G z
      refine ⟨g1, fun j b m' q z2 w => ?_, fun j G' z2 => ?_⟩
      · rcases get z2 with z2 | ⟨rfl, _⟩
        · rcases get w with w | ⟨y, _⟩
          · exact g2 j b m' q z2 w
          · have := (List.getElem?_eq_some_iff.mp z2).1
            rw [k.len] at this; omega
        · rw [last] at w; cases w
          exact h6.2 i G z
      · rcases get z2 with z2 | ⟨_, z2⟩
        · exact g3 j G' z2
        · cases z2
    · cases z
theorem Ok.cut {n : Nat} (k : Ok K e F r s H) : Ok K e F (r.take n) (s.take n) H := by
  have get : ∀ {α : Type} {l : List α} {y : α} {i : Nat}, (l.take n)[i]? = some y → i < n ∧ l[i]? = some y := by
    intro α l y i h
    rw [List.getElem?_take] at h
    split at h
    · rename_i q; exact ⟨q, h⟩
    · cases h
  have put : ∀ {α : Type} {l : List α} {y : α} {i : Nat}, i < n → l[i]? = some y → (l.take n)[i]? = some y := by
    intro α l y i q h
    rw [List.getElem?_take, if_pos q]; exact h
  refine ⟨by rw [List.length_take, List.length_take, k.len], k.sub, k.f0, k.prot, k.new, k.dom, fun i d z => ?_, fun i b m' z => ?_, fun i ns z => ?_, fun i j q b m1 b' m2 z z' y y' => ?_, fun i n a z => ?_, fun i G z => ?_, k.gpF⟩
  · obtain ⟨q, z⟩ := get z
    obtain ⟨v, g1, g2⟩ := k.slot i d z; exact ⟨v, put q g1, g2⟩
  · obtain ⟨q, z⟩ := get z
    obtain ⟨p, u, g1, g2⟩ := k.box i b m' z; exact ⟨p, u, put q g1, g2⟩
  · obtain ⟨q, z⟩ := get z
    obtain ⟨a, g1, g2⟩ := k.ob i ns z; exact ⟨a, put q g1, g2⟩
  · exact k.sep i j q b m1 b' m2 (get z).2 (get z').2 (get y).2 (get y').2
  · obtain ⟨q, z⟩ := get z
    exact put q (k.adr i n a z)
  · obtain ⟨g1, g2, g3⟩ := k.gh i G (get z).2
    exact ⟨g1, fun j b m p z2 w => g2 j b m p (get z2).2 (get w).2, fun j G' z2 => g3 j G' (get z2).2⟩
theorem RT.ext {x : R} {v : V} {t : L2.St} (h : RT K F s x v) : RT K F (s ++ t) x v := by
  cases h with
  | val a => exact .val a
  | bor a => exact .bor (by rw [List.getElem?_append_left (List.getElem?_eq_some_iff.mp a).1]; exact a)
  | ob a => exact .ob a
  | adr => exact .adr
theorem RTs.ext {xs : List R} {vs : List V} {t : L2.St} (h : RTs K F s xs vs) : RTs K F (s ++ t) xs vs := by
  induction h with
  | nil => exact .nil
  | cons a _ ih => exact .cons a.ext ih
/-- values of arguments, one of them a new object -/
inductive RTw (K : Fg) (e : En) (F : Hp) (r : Rho) (s : L2.St) (H : Hp) : List R → List V → Prop
  | own {m : MB} {v : V} {xs : List R} {vs : List V} : RR K e F r s H (.own m) v → RTs K F s xs vs → RTw K e F r s H (.own m :: xs) (v :: vs)
  | cons {x : R} {v : V} {xs : List R} {vs : List V} : RT K F s x v → RTw K e F r s H xs vs → RTw K e F r s H (x :: xs) (v :: vs)
theorem RTw.length {xs : List R} {vs : List V} (t : RTw K e F r s H xs vs) : xs.length = vs.length := by
  induction t with
  | own h t => rw [List.length_cons, List.length_cons, t.length]
  | cons a t ih => rw [List.length_cons, List.length_cons, ih]
theorem RR.mono {x : R} {v : V} {m : MB} {F' : Hp} {r' : Rho} {H' : Hp} {p : Addr} {o : HO} (k : Ok K (e.keep p o) F' r' s H') (hm : MO K F' o m) (hP : e.P p = none) (hF0 : e.F0 p = none) (ho : ¬ e.old p) : RR K e F' r' s H' (.own m) (.ref p) := by
  obtain ⟨k', h1, h2, h3⟩ := k.unkeep hP hF0 hm.ntup
  exact .own h1 hm h2 hP ho h3
end
section
variable {X : Cx} {a : Expr} {es : List Expr} {ma : ME} {ms : MA} {k n : Nat} {f : Addr} {fd : FuncData} {ps : List Str} {c : Ct} {x : Str} {p pos : Pos}
/-- the module's name x is a def that keeps the contract c, called by places -/
structure DefP (P : Program) (w : World) (K : Fg) (mg : Str → Option Value) (base : Heap) (k : Nat) (x : Str) (n : Nat) (c : Ct) : Prop where
  ex : ∃ f fd ps, mg x = some (.ref f) ∧ PySem.W.keepIn K (.ref f) = true ∧ FnD P w K mg base k f fd ps c ∧ Binds K fd ps [] ∧ ps.length = n
theorem DefP.of {P : Program} {w : World} {K : Fg} {mg : Str → Option Value} {base : Heap} {k : Nat} {x : Str} {c : Ct} {f : Addr} {fd : FuncData} {ps : List Str} (hm : mg x = some (.ref f)) (hk : PySem.W.keepIn K (.ref f) = true) (F : FnD P w K mg base k f fd ps c) (hb : Binds K fd ps []) : DefP P w K mg base k x ps.length c := ⟨⟨f, fd, ps, hm, hk, F, hb, rfl⟩⟩
end
end DL
namespace DL
open PySem L2 PyProof.Rows
def minI : List Int → Int
  | [] => 0
  | a :: r => r.foldl (fun m x => if x < m then x else m) a
theorem fold_min : ∀ (r : List Int) (a : Int), (r.foldl (fun m x => if x < m then x else m) a) ∈ a :: r ∧ ∀ x ∈ a :: r, r.foldl (fun m x => if x < m then x else m) a ≤ x
  | [], a => by simp
  | b :: r, a => by
    rw [List.foldl_cons]
    by_cases h : b < a
    · rw [if_pos h]
      obtain ⟨h1, h2⟩ := fold_min r b
      refine ⟨List.mem_cons_of_mem _ h1, fun x hx => ?_⟩
      rcases List.mem_cons.mp hx with rfl | hx
      · have := h2 b List.mem_cons_self; omega
      · exact h2 x hx
    · rw [if_neg h]
      obtain ⟨h1, h2⟩ := fold_min r a
      refine ⟨?_, fun x hx => ?_⟩
      · rcases List.mem_cons.mp h1 with h1 | h1
        · rw [h1]; exact List.mem_cons_self
        · exact List.mem_cons_of_mem _ (List.mem_cons_of_mem _ h1)
      · rcases List.mem_cons.mp hx with rfl | hx
        · exact h2 _ List.mem_cons_self
        · rcases List.mem_cons.mp hx with rfl | hx
          · have := h2 a List.mem_cons_self; omega
          · exact h2 x (List.mem_cons_of_mem _ hx)
theorem minI_mem {ns : List Int} (h : ns ≠ []) : minI ns ∈ ns ∧ ∀ x ∈ ns, minI ns ≤ x := by
  cases ns with
  | nil => exact absurd rfl h
  | cons a r => exact fold_min r a
section
variable {X : Cx}
theorem LkA.three {K : Fg} {F H : Hp} {vs : List V} {d d' d'' : D} (h : LkA K F H vs [d, d', d'']) : ∃ v v' v'', vs = [v, v', v''] ∧ Lk K F H v d ∧ Lk K F H v' d' ∧ Lk K F H v'' d'' := by
  cases h with
  | cons a h =>
    obtain ⟨v', v'', rfl, b, c⟩ := h.two
    exact ⟨_, _, _, rfl, a, b, c⟩
def fMinA : FA
  | [.int i, .int j] => some (.val (.int (if j < i then j else i)))
  | [.int i, .int j, .int l] => some (.val (.int (if l < (if j < i then j else i) then l else (if j < i then j else i))))
  | [.list ds] => match intsOf ds with
    | some ns => if ns ≠ [] then some (.val (.int (minI ns))) else none
    | none => none
  | _ => none
theorem nuMin3_int (i j l : Int) : nuMin3 (V.int i) (.int j) (.int l) = some (.int (if l < (if j < i then j else i) then l else (if j < i then j else i))) := by
  have e1 : nuMin2 (V.int i) (V.int j) = some (V.int (if j < i then j else i)) := by
    show some (if decide (j < i) = true then V.int j else V.int i) = _
    by_cases h : j < i <;> simp [h]
  have e2 : ∀ m : Int, nuMin2 (V.int m) (V.int l) = some (V.int (if l < m then l else m)) := fun m => by
    show some (if decide (l < m) = true then V.int l else V.int m) = _
    by_cases h : l < m <;> simp [h]
  unfold nuMin3
  rw [e1, Option.bind_some, e2]
theorem calld_minA (hc : X.calm = true) : CallD X (.builtin "min") fMinA := by
  refine ⟨_, CallR.or (call_min2 hc) (CallR.or (cr_min hc) (call_min3Nu hc)), fun e F r s H vs ds z Q k l ef w => ?_⟩
  unfold fMinA at ef
  split at ef
  · cases ef
    obtain ⟨v, v', rfl, lk, lk'⟩ := l.two
    rw [lk.int, lk'.int]
    exact .inl ⟨_, _, rfl, w _ F H k (Sub.refl F) (.val (.int _))⟩
  · cases ef
    obtain ⟨v, v', v'', rfl, lk, lk', lk''⟩ := l.three
    rw [lk.int, lk'.int, lk''.int]
    exact .inr (.inr ⟨_, _, _, _, rfl, nuMin3_int _ _ _, w _ F H k (Sub.refl F) (.val (.int _))⟩)
  · rename_i ds
    split at ef
    · rename_i ns hn
      split at ef
      · rename_i hne
        cases ef
        obtain ⟨v, rfl, lk⟩ := l.one
        obtain ⟨a, xs, rfl, h1, h2⟩ := lk.lst k.sub
        have e3 := h2.ints hn
        subst e3
        refine .inr (.inl ⟨a, ns, rfl, .inl h1, List.length_pos_iff.mpr hne, fun m h1 h2 => ?_⟩)
        obtain ⟨g1, g2⟩ := minI_mem hne
        have : m = minI ns := Int.le_antisymm (h2 _ g1) (g2 m h1)
        rw [this]
        exact w _ F H k (Sub.refl F) (.val (.int _))
      · cases ef
    · cases ef
  · cases ef
def kMinA : List D → (R → Prop) → Prop
  | [.int i, .int j], K => K (.val (.int (if j < i then j else i)))
  | [.int i, .int j, .int l], K => K (.val (.int (if l < (if j < i then j else i) then l else (if j < i then j else i))))
  | [.list ds], K => onO (intsOf ds) fun ns => Rq (ns ≠ []) (K (.val (.int (minI ns))))
  | _, _ => False
def cMinA : CaK := ⟨fMinA, kMinA, fun ds K h => by
  unfold kMinA at h
  split at h
  · exact ⟨_, rfl, h⟩
  · exact ⟨_, rfl, h⟩
  · obtain ⟨ns, e, h2⟩ := onO.ex h
    exact ⟨_, by simp only [fMinA, e]; exact rq_if h2, Rq.a h2⟩
  · exact h.elim⟩
end
end DL
namespace DL
open PySem L2 PyProof.Rows
section
variable {K : Fg} {x qual : Str} {params : Arguments} {body : List Stmt} {scope : Scope} {kws : List (Str × V)} {f : Addr} {fd : FuncData} {ps : List Str}
/-- by places and by names, some keyword-only ones lack -/
theorem Bd.lack {dds : List D} (F : FunD K x qual params body scope [] kws f fd) (n : Nat) (ks : List Str) (ms : List (Str × V)) (ix : List (Bool × Nat)) (hk : kws ≠ []) (hms : ∀ q ∈ ms, q ∈ kws) (hf : Flats (ms.map (·.2)) dds) (hl : ix.length = ps.length) (ho : ixOk n (ks.length + ms.length) ix = true)
    (h : ∀ (D : Addr) (doc pm : Value) (an : Option Addr) (cdv ct : Value) (us ws mv : List Value), us.length = n → ws.length = ks.length → mv.length = ms.length →
      KwChain D ((ms.map (·.1)).zip mv) (bindArgs (PySem.W.fnOf x qual params body scope .none (.ref D) doc pm an cdv ct) ⟨us, ks.zip ws⟩) (ps.zip (DL.pick ix us (ws ++ mv)))) : Bd K fd ps n ks (fun xs zs => DL.pick ix xs (zs ++ dds.map R.val)) := by
  obtain ⟨oc, od, dV, kV, doc, pm, an, cdv, ct, osl, rfl, lk, hcd, hD, hK⟩ := F.ex
  rcases hD with ⟨_, rfl⟩ | ⟨e, _⟩
  · rcases hK with e | ⟨D, rfl, hq⟩
    · exact absurd e hk
    · obtain ⟨mv, hl2, rk, hks⟩ := kwd_vals (ms := ms) fun q hm => hq q (hms q hm)
      refine ⟨fun us ws => DL.pick ix us (ws ++ mv), fun vs zs => DL.pick ix vs (zs ++ ms.map (·.2)), ⟨fun s us ws X l1 l2 => ?_, fun r q => pick_vals r (q.append rk) ix⟩, fun vs zs l1 l2 => ?_, fun F s xs vs zs ws t q _ _ => pick_rts t (q.append hf.rts) ix⟩
      · exact BindsTo.of_looks fun M => KwChain.looks X hks (h D doc pm an cdv ct us ws mv l1 l2 hl2)
      · rw [pick_length (by rw [l1, List.length_append, l2, List.length_map]; exact ho), hl]
  · exact absurd rfl e
end
end DL
namespace DL
open PySem L2 PyProof.Rows
def SIGNS : Str := "\n !\"#$&'()*+,-./0123456789:;<=>?@ABCDEFGHIJKLMNOPQRSTUVWXYZ[\\]^_`abcdefghijklmnopqrstuvwxyz{|}~"
def LETTERS : Str := "abcdefghijklmnopqrstuvwxyz"
def inS (c : Nat) : Bool := decide (c ∈ SIGNS.cps.toList)
def inL (c : Nat) : Bool := decide (c ∈ LETTERS.cps.toList)
def isTextX (most : Int) (x : Str) : Bool := decide ((x.length : Int) ≤ most) && x.cps.toList.all inS
def isText (most : Int) : D → Bool
  | .str x => isTextX most x
  | _ => false
def rising : List Nat → Bool
  | a :: b :: r => decide (a < b) && rising (b :: r)
  | _ => true
def isSigns (least : Int) : D → Bool
  | .str x => isTextX 94 x && (!decide ((x.length : Int) < least) && rising x.cps.toList)
  | _ => false
def isName : D → Bool
  | .str x => decide (1 ≤ (x.length : Int)) && (decide ((x.length : Int) ≤ 8) && x.cps.toList.all inL)
  | _ => false
def FORMS : Tab := [("nothing", ""), ("never", ""), ("sign", "s"), ("but", "b"), ("row", "p"), ("choice", "p"), ("many", "r"), ("maybe", "r"), ("ahead", "r"), ("not", "r"), ("name", "n"), ("hold", "nr"), ("again", "n"), ("tag", "nr"), ("make", "wr")]
def isMake : D → Bool
  | .str x => flatIn (.str x) [.str "text", .str "drop", .str "count", .str "number"]
  | _ => false
/-- one piece by its letter: s 115, b 98, n 110, w 119, r 114, p 112 -/
def isPiece (g : D → Bool) (f : Nat) (d : D) : Bool :=
  if f = 115 then isSigns 1 d else if f = 98 then isSigns 0 d else if f = 110 then isName d else if f = 119 then isMake d else if f = 114 then g d else match d with
    | .tuple ds => decide (2 ≤ (ds.length : Int)) && (decide ((ds.length : Int) ≤ 6) && ds.all g)
    | _ => false
def isForm : Nat → D → Bool
  | 0, _ => false
  | n + 1, .tuple (.str w :: ps) => match tLook FORMS w with
    | some fs => decide (ps.length = fs.length) && (fs.cps.toList.zip ps).all fun q => isPiece (isForm n) q.1 q.2
    | none => false
  | _ + 1, _ => false
def Fit (d : D) : Prop := okD d ∧ wt d ≤ 1000000 ∧ d.depth ≤ 64
theorem wts_mem {d : D} : ∀ {ds : List D}, d ∈ ds → wt d + 2 ≤ wts ds
  | [], h => by cases h
  | e :: ds, h => by
    rw [wts]
    rcases List.mem_cons.mp h with rfl | h
    · omega
    · have := wts_mem h; omega
theorem Fit.tup {ds : List D} (h : Fit (.tuple ds)) : ∀ d ∈ ds, Fit d := fun d hd => by
  obtain ⟨h1, h2, h3⟩ := h
  refine ⟨okDs_iff.mp h1 d hd, ?_, ?_⟩
  · have := wts_mem hd
    rw [wt] at h2; omega
  · have h5 : PyData.depthAll ds ≤ 63 := by
      simp only [PyData.depth] at h3; omega
    exact Nat.le_trans (depthAll_le.mp h5 d hd) (by omega)
theorem Fit.str {x : Str} (h : Fit (.str x)) : x.length ≤ 1000000 := by
  have := h.2.1
  rw [wt] at this; omega
theorem Fit.len {ds : List D} (h : Fit (.tuple ds)) : ds.length ≤ 1000000 := by
  have h2 := h.2.1
  rw [wt] at h2
  have : ∀ ds : List D, ds.length ≤ wts ds := fun ds => by
    induction ds with
    | nil => simp
    | cons d ds ih => rw [wts, List.length_cons]; omega
  have := this ds
  omega
theorem Fit.shaped {d : D} (h : Fit d) (hd : d.hasDict = false) : SeqAt.shaped d = true := shaped_ok h.1 h.2.2 hd
theorem blsOf_map {α : Type} (f : α → Bool) : ∀ as : List α, blsOf (as.map fun a => PyData.bool (f a)) = some (as.map f)
  | [] => rfl
  | a :: as => by simp [blsOf, blsOf_map f as]
theorem all_map {α : Type} (f : α → Bool) (as : List α) : (as.map f).all id = as.all f := by simp [List.all_map]
theorem lt_one (c d : Nat) : decide ((⟨#[c]⟩ : Str).cps.toList < (⟨#[d]⟩ : Str).cps.toList) = decide (c < d) := by
  have : ((⟨#[c]⟩ : Str).cps.toList < (⟨#[d]⟩ : Str).cps.toList) ↔ c < d := by
    show [c] < [d] ↔ c < d
    constructor
    · intro h
      cases h with
      | rel h => exact h
      | cons h => cases h
    · intro h
      exact List.Lex.rel h
  simp only [this]
theorem rising_zip : ∀ l : List Nat, rising l = (l.zip (l.drop 1)).all fun q => decide (q.1 < q.2)
  | [] => rfl
  | [a] => rfl
  | a :: b :: r => by
    have ih := rising_zip (b :: r)
    simp only [List.drop_succ_cons, List.drop_zero] at ih
    simp only [rising, List.drop_succ_cons, List.drop_zero, List.zip_cons_cons, List.all_cons, ih]
theorem zipD_map {α β : Type} (f : α → D) (g : β → D) : ∀ (as : List α) (bs : List β), zipD (as.map f) (bs.map g) = (as.zip bs).map fun q => .tuple [f q.1, g q.2]
  | [], _ => rfl
  | _ :: _, [] => rfl
  | a :: as, b :: bs => by simp [zipD, zipD_map f g as bs]
theorem cutS_lo (x : Str) (k : Nat) : (cutS x (some (k : Int)) none).cps.toList = x.cps.toList.drop k := by
  unfold cutS
  rw [HT.sIx_none, HT.sIx_nat]
  show ((x.cps.toList.drop (min k x.length)).take (x.length - min k x.length)) = _
  have hl : x.cps.toList.length = x.length := Array.length_toList
  rw [List.take_of_length_le (by rw [List.length_drop, hl]; omega)]
  by_cases h : k ≤ x.length
  · rw [Nat.min_eq_left h]
  · rw [Nat.min_eq_right (by omega), List.drop_of_length_le (by omega), List.drop_of_length_le (by omega)]
theorem cutS_hi (x : Str) (k : Nat) : (cutS x none (some (k : Int))).cps.toList = x.cps.toList.take k := by
  unfold cutS
  rw [HT.sIx_none, HT.sIx_nat]
  show ((x.cps.toList.drop 0).take (min k x.length - 0)) = _
  have hl : x.cps.toList.length = x.length := Array.length_toList
  rw [List.drop_zero, Nat.sub_zero]
  by_cases h : k ≤ x.length
  · rw [Nat.min_eq_left h]
  · rw [Nat.min_eq_right (by omega), List.take_of_length_le (by omega), List.take_of_length_le (by omega)]
theorem cutS_lohi (x : Str) (k l : Nat) : (cutS x (some (k : Int)) (some (l : Int))).cps.toList = (x.cps.toList.drop k).take (l - k) := by
  unfold cutS
  rw [HT.sIx_nat, HT.sIx_nat]
  show ((x.cps.toList.drop (min k x.length)).take (min l x.length - min k x.length)) = _
  have hl : x.cps.toList.length = x.length := Array.length_toList
  apply List.ext_getElem?
  intro i
  rw [List.getElem?_take, List.getElem?_take, List.getElem?_drop, List.getElem?_drop]
  by_cases h : k ≤ x.length
  · rw [Nat.min_eq_left h]
    by_cases h2 : i < l - k
    · rw [if_pos h2]
      by_cases h3 : i < min l x.length - k
      · rw [if_pos h3]
      · rw [if_neg h3, List.getElem?_eq_none (by omega)]
    · rw [if_neg h2, if_neg (by omega)]
  · rw [if_neg (by omega)]
    split
    · rw [List.getElem?_eq_none (by omega)]
    · rfl
theorem cutD_lo (ds : List D) (k : Nat) : cutD ds (some (k : Int)) none = ds.drop k := by
  unfold cutD
  rw [HT.sIx_none, HT.sIx_nat]
  rw [List.take_of_length_le (by rw [List.length_drop]; omega)]
  by_cases h : k ≤ ds.length
  · rw [Nat.min_eq_left h]
  · rw [Nat.min_eq_right (by omega), List.drop_of_length_le (by omega), List.drop_of_length_le (by omega)]
theorem at_0 {α : Type} (x : α) (xs : List α) : atI (x :: xs) 0 = some x := by
  unfold atI ixN
  rw [if_pos (by omega), if_pos (by rw [List.length_cons]; omega)]
  rfl
theorem at_nat {α : Type} {xs : List α} {i : Nat} {x : α} (h : xs[i]? = some x) : atI xs (i : Int) = some x := by
  have hl := (List.getElem?_eq_some_iff.mp h).1
  unfold atI ixN
  rw [if_pos (by omega), if_pos (by omega)]
  simpa using h
theorem star21 {gs : GTs} {a : D} {ps : List D} {r : Rho} : gStar 2 1 gs (.tuple (a :: ps)) r = gs [a, .list ps] r := by
  unfold gStar
  show (if 1 < 2 ∧ 2 ≤ (a :: ps).length + 1 then gs (starL 2 1 .list (a :: ps)) r else none) = _
  rw [if_pos ⟨by omega, by rw [List.length_cons]; omega⟩]
  have : starL 2 1 PyData.list (a :: ps) = [a, .list ps] := by
    simp [starL]
  rw [this]
theorem lc_id {vs : List Nat} {g : GT} {tt : MT} {te : ME} {P : List D → Rho → Prop} {r : Rho} (gv : D → D) {as : List D} (h : ∀ a ∈ as, ∀ ds acc, acc.length < sizeLine → lcM vs g tt te P ds (acc ++ [gv a]) r → lcM vs g tt te P (a :: ds) acc r)
    (hz : as.length < sizeLine) (hp : P (as.map gv) r) : Lc vs g tt te P as [] r := by
  have := lc_list (P := P) (vs := vs) (g := g) (tt := tt) (te := te) (r := r) (fun d : D => d) gv (as := as) h hz hp
  rwa [List.map_id'] at this
end DL
namespace DL
open PySem L2 PyProof.Rows
theorem rising_iff : ∀ l : List Nat, rising l = true ↔ l.Pairwise (· < ·)
  | [] => by simp [rising]
  | [a] => by simp [rising]
  | a :: b :: r => by
    have ih := rising_iff (b :: r)
    simp only [rising, Bool.and_eq_true, decide_eq_true_eq, ih]
    constructor
    · rintro ⟨h1, h2⟩
      refine List.pairwise_cons.mpr ⟨fun x hx => ?_, h2⟩
      rcases List.mem_cons.mp hx with rfl | hx
      · exact h1
      · exact Nat.lt_trans h1 ((List.pairwise_cons.mp h2).1 x hx)
    · intro h
      obtain ⟨h1, h2⟩ := List.pairwise_cons.mp h
      exact ⟨h1 b List.mem_cons_self, h2⟩
theorem SIGNS_rising : SIGNS.cps.toList.Pairwise (· < ·) := (rising_iff _).mp (by decide +kernel)
theorem SIGNS_len : SIGNS.length = 95 := by decide +kernel
/-- a rising text of at most 94 signs -/
def Sg0 (x : Str) : Prop := x.cps.toList.Sublist SIGNS.cps.toList ∧ x.length ≤ 94
def Sg1 (x : Str) : Prop := Sg0 x ∧ 1 ≤ x.length
def Nm (x : Str) : Prop := x.cps.toList.all inL = true ∧ 1 ≤ x.length ∧ x.length ≤ 8
def Mk (x : Str) : Prop := x = "text" ∨ x = "drop" ∨ x = "count" ∨ x = "number"
theorem Sg0.is {x : Str} (h : Sg0 x) {n : Int} (hn : n ≤ x.length) : isSigns n (.str x) = true := by
  have h1 : x.cps.toList.all inS = true := List.all_eq_true.mpr fun c hc => decide_eq_true (h.1.subset hc)
  have h2 : rising x.cps.toList = true := (rising_iff _).mpr (SIGNS_rising.sublist h.1)
  have h3 := h.2
  show (decide ((x.length : Int) ≤ 94) && x.cps.toList.all inS && (!decide ((x.length : Int) < n) && rising x.cps.toList)) = true
  rw [h1, h2, decide_eq_true (by omega), decide_eq_false (by omega)]; rfl
theorem Nm.is {x : Str} (h : Nm x) : isName (.str x) = true := by
  obtain ⟨h1, h2, h3⟩ := h
  show (decide (1 ≤ (x.length : Int)) && (decide ((x.length : Int) ≤ 8) && x.cps.toList.all inL)) = true
  rw [h1, decide_eq_true (by omega), decide_eq_true (by omega)]; rfl
theorem SIGNS_ok : ∀ c ∈ SIGNS.cps.toList, c < 1114112 := by decide +kernel
theorem LETTERS_ok : ∀ c ∈ LETTERS.cps.toList, c < 1114112 := by decide +kernel
theorem Sg0.ok {x : Str} (h : Sg0 x) : Tx 94 x := ⟨h.2, fun c hc => SIGNS_ok c (h.1.subset hc)⟩
theorem Nm.ok {x : Str} (h : Nm x) : Tx 8 x := ⟨h.2.2, fun c hc => LETTERS_ok c (of_decide_eq_true (List.all_eq_true.mp h.1 c hc))⟩
theorem Mk.ok {x : Str} (h : Mk x) : Tx 8 x := by
  rcases h with rfl | rfl | rfl | rfl <;> exact ⟨by decide, okS_of (by decide +kernel)⟩
theorem Mk.is {x : Str} (h : Mk x) : isMake (.str x) = true := by
  rcases h with rfl | rfl | rfl | rfl <;> decide +kernel
/-- a join of signs -/
theorem joinS (l : List Nat) : (Str.join (Str.ofString "") (l.map fun c => (⟨#[c]⟩ : Str))).cps.toList = l := by
  induction l with
  | nil => rfl
  | cons c l ih =>
    cases l with
    | nil => rfl
    | cons d l =>
      have e : Str.join (Str.ofString "") ((c :: d :: l).map fun c => (⟨#[c]⟩ : Str)) = (⟨#[c]⟩ : Str) ++ Str.ofString "" ++ Str.join (Str.ofString "") ((d :: l).map fun c => (⟨#[c]⟩ : Str)) := rfl
      rw [e, app_list, app_list, ih]; rfl
theorem joinOnes (l : List Nat) : (Txt.join (Str.ofString "") (l.map fun c => (⟨#[c]⟩ : Str))).cps.toList = l := by
  rw [show Txt.join (Str.ofString "") (l.map fun c => (⟨#[c]⟩ : Str)) = Str.join (Str.ofString "") (l.map fun c => (⟨#[c]⟩ : Str)) from StrLaws.glued_eq_join _ _]
  exact joinS l
theorem join_ones_fit {l : List Nat} (h : l.length ≤ 1000000) : joinLen (Str.ofString "") (l.map fun c => (⟨#[c]⟩ : Str)) ≤ 16777216 := by
  have := joinLen_le (a := Str.ofString "") (xs := l.map fun c => (⟨#[c]⟩ : Str)) (m := 1) (by
    intro y hy
    rw [List.mem_map] at hy
    obtain ⟨c, _, rfl⟩ := hy
    exact Nat.le_refl _)
  rw [show (Str.ofString "").length = 0 from rfl, List.length_map] at this
  omega
theorem strsOf_ones (l : List Nat) : strsOf (l.map fun c => PyData.str ⟨#[c]⟩) = some (l.map fun c => (⟨#[c]⟩ : Str)) := strsOf_mapf (fun c => (⟨#[c]⟩ : Str)) l
theorem slen (x : Str) : x.length = x.cps.toList.length := (Array.length_toList).symm
mutual
def Rdr.wf : Rdr → Prop
  | .l0 _ => True
  | .l1 .sign x => Sg1 x
  | .l1 .but x => Sg0 x
  | .l1 .name x => Nm x
  | .l1 .again x => Nm x
  | .ps _ rs => 2 ≤ rs.length ∧ rs.length ≤ 6 ∧ wfs rs
  | .un _ r => r.wf
  | .bi .make x r => Mk x ∧ r.wf
  | .bi .hold x r => Nm x ∧ r.wf
  | .bi .tag x r => Nm x ∧ r.wf
def wfs : List Rdr → Prop
  | [] => True
  | r :: rs => r.wf ∧ wfs rs
end
theorem wfs_iff : ∀ {rs : List Rdr}, wfs rs ↔ ∀ r ∈ rs, r.wf
  | [] => by simp [wfs]
  | r :: rs => by simp [wfs, wfs_iff (rs := rs)]
mutual
theorem Rdr.wf.good : ∀ {r : Rdr}, r.wf → r.good 94
  | .l0 _, _ => trivial
  | .l1 .sign x, h => h.1.ok
  | .l1 .but x, h => Sg0.ok h
  | .l1 .name x, h => (Nm.ok h).mono (by omega)
  | .l1 .again x, h => (Nm.ok h).mono (by omega)
  | .ps _ rs, h => ⟨h.2.1, wfs.good h.2.2⟩
  | .un _ r, h => Rdr.wf.good (r := r) h
  | .bi .make x r, h => ⟨h.1.ok.mono (by omega), Rdr.wf.good h.2⟩
  | .bi .hold x r, h => ⟨(Nm.ok h.1).mono (by omega), Rdr.wf.good h.2⟩
  | .bi .tag x r, h => ⟨(Nm.ok h.1).mono (by omega), Rdr.wf.good h.2⟩
theorem wfs.good : ∀ {rs : List Rdr}, wfs rs → goods 94 rs
  | [], _ => trivial
  | r :: rs, h => ⟨Rdr.wf.good h.1, wfs.good h.2⟩
end
theorem Rdr.dep_pos (r : Rdr) : 1 ≤ r.dep := by cases r <;> simp only [Rdr.dep] <;> omega
theorem form_0 (d : D) : isForm 0 d = false := by unfold isForm; rfl
/-- a right reader is one as far as it is no deeper -/
theorem forms_wf : ∀ (n : Nat) (r : Rdr), r.wf → isForm n r.toD = decide (r.dep ≤ n)
  | 0, r, _ => by
    have := r.dep_pos
    rw [form_0, decide_eq_false (by omega)]
  | n + 1, r, h => by
    have ih := forms_wf n
    cases r with
    | l0 w =>
      have e : isForm (n + 1) (Rdr.l0 w).toD = true := by cases w <;> rfl
      rw [e, decide_eq_true (by rw [Rdr.dep]; omega)]
    | l1 w x =>
      rw [show decide ((Rdr.l1 w x).dep ≤ n + 1) = true from decide_eq_true (by rw [Rdr.dep]; omega)]
      cases w with
      | sign =>
        have e : isForm (n + 1) (Rdr.l1 .sign x).toD = (isSigns 1 (.str x) && true) := rfl
        rw [e, Sg0.is h.1 (by have := h.2; omega)]; rfl
      | but =>
        have e : isForm (n + 1) (Rdr.l1 .but x).toD = (isSigns 0 (.str x) && true) := rfl
        rw [e, Sg0.is h (by omega)]; rfl
      | name =>
        have e : isForm (n + 1) (Rdr.l1 .name x).toD = (isName (.str x) && true) := rfl
        rw [e, Nm.is h]; rfl
      | again =>
        have e : isForm (n + 1) (Rdr.l1 .again x).toD = (isName (.str x) && true) := rfl
        rw [e, Nm.is h]; rfl
    | ps w rs =>
      have hl := h.1
      have hl2 := h.2.1
      have e : isForm (n + 1) (Rdr.ps w rs).toD = ((decide (2 ≤ ((toDs rs).length : Int)) && (decide (((toDs rs).length : Int) ≤ 6) && (toDs rs).all (isForm n))) && true) := by cases w <;> rfl
      have e2 : (toDs rs).all (isForm n) = decide (deps rs ≤ n) := by
        rw [toDs_map, List.all_map, Bool.eq_iff_iff, List.all_eq_true, decide_eq_true_eq, deps_le]
        constructor
        · intro q r hr
          have := q r hr
          simp only [Function.comp_apply] at this
          rw [ih r (wfs_iff.mp h.2.2 r hr), decide_eq_true_eq] at this
          exact this
        · intro q r hr
          simp only [Function.comp_apply]
          rw [ih r (wfs_iff.mp h.2.2 r hr), decide_eq_true_eq]
          exact q r hr
      have e3 : (toDs rs).length = rs.length := by rw [toDs_map, List.length_map]
      rw [e, e2, e3, decide_eq_true (show 2 ≤ (rs.length : Int) by omega), decide_eq_true (show (rs.length : Int) ≤ 6 by omega)]
      simp only [Bool.true_and, Bool.and_true]
      rw [Bool.eq_iff_iff, decide_eq_true_eq, decide_eq_true_eq, Rdr.dep]
      omega
    | un w r =>
      have e : isForm (n + 1) (Rdr.un w r).toD = (isForm n r.toD && true) := by cases w <;> rfl
      rw [e, ih r h, Bool.and_true, Rdr.dep, Bool.eq_iff_iff, decide_eq_true_eq, decide_eq_true_eq]
      omega
    | bi w x r =>
      have k : ∀ b : Bool, b = true → r.wf → (b && (isForm n r.toD && true)) = decide ((Rdr.bi w x r).dep ≤ n + 1) := by
        intro b hb hr
        rw [hb, ih r hr, Bool.and_true, Bool.true_and, Rdr.dep, Bool.eq_iff_iff, decide_eq_true_eq, decide_eq_true_eq]
        omega
      cases w with
      | hold => exact k (isName (.str x)) (Nm.is h.1) h.2
      | tag => exact k (isName (.str x)) (Nm.is h.1) h.2
      | make => exact k (isMake (.str x)) (Mk.is h.1) h.2
def kids : Rdr → List Rdr
  | .ps _ rs => rs
  | .un _ r => [r]
  | .bi _ _ r => [r]
  | _ => []
theorem kids_wf {r : Rdr} (h : r.wf) : ∀ k ∈ kids r, k.wf := by
  cases r with
  | l0 w => intro k hk; cases hk
  | l1 w x => intro k hk; cases hk
  | ps w rs => exact wfs_iff.mp h.2.2
  | un w r => intro k hk; rw [List.mem_singleton.mp hk]; exact h
  | bi w x r => intro k hk; rw [List.mem_singleton.mp hk]; cases w <;> exact h.2
theorem kids_dep {r : Rdr} {n : Nat} (h : r.dep ≤ n + 1) : ∀ k ∈ kids r, k.dep ≤ n := by
  cases r with
  | l0 w => intro k hk; cases hk
  | l1 w x => intro k hk; cases hk
  | ps w rs =>
    rw [Rdr.dep] at h
    exact (deps_le (n := n) (rs := rs)).mp (by omega)
  | un w r => intro k hk; rw [List.mem_singleton.mp hk]; rw [Rdr.dep] at h; omega
  | bi w x r => intro k hk; rw [List.mem_singleton.mp hk]; rw [Rdr.dep] at h; omega
theorem kids_cnt {r : Rdr} : ∀ k ∈ kids r, k.cnt < r.cnt := by
  cases r with
  | l0 w => intro k hk; cases hk
  | l1 w x => intro k hk; cases hk
  | ps w rs =>
    intro k hk
    have := cnts_le (n := 0) (rs := rs) k hk
    rw [Rdr.cnt]; omega
  | un w r => intro k hk; rw [List.mem_singleton.mp hk, Rdr.cnt]; omega
  | bi w x r => intro k hk; rw [List.mem_singleton.mp hk, Rdr.cnt]; omega
theorem kids_len {r : Rdr} (h : r.wf) : (kids r).length ≤ 6 := by
  cases r with
  | l0 w => simp [kids]
  | l1 w x => simp [kids]
  | ps w rs => exact h.2.1
  | un w r => simp [kids]
  | bi w x r => simp [kids]
/-- what fits -/
theorem Rdr.fit {r : Rdr} (h : r.wf) (hc : r.cnt ≤ 500) (hd : r.dep ≤ 30) : Fit r.toD := by
  have a1 := Rdr.okD r h.good
  have a2 := Rdr.wt r h.good
  have a3 := Rdr.depth r
  exact ⟨a1, by omega, by omega⟩
end DL
namespace DL
open PySem L2 PyProof.Rows
theorem strictL_mk : ∀ {l : List D} {K : List D → Prop}, K l → strictL l K
  | [], _, h => h
  | d :: l, K, h => strictL_mk (l := l) (K := fun l' => K (d :: l')) h
theorem ix_nat {n : Nat} {i : Int} (h0 : 0 ≤ i) (h1 : i < n) : ixN n i = some i.toNat := by
  unfold ixN
  rw [if_pos h0, if_pos h1]
theorem range_ints {lo : Int} {n : Nat} : ∀ d ∈ rangeD lo n, ∃ i : Int, d = .int i ∧ lo ≤ i ∧ i < lo + n := by
  intro d hd
  unfold rangeD at hd
  rw [List.mem_map] at hd
  obtain ⟨k, hk, rfl⟩ := hd
  rw [List.mem_range] at hk
  exact ⟨_, rfl, by omega, by omega⟩
theorem letter_at {v : Int} (h0 : 0 ≤ v) (h1 : v < 26) : ∃ c : Nat, atI (Str.ofString "abcdefghijklmnopqrstuvwxyz").cps.toList v = some c ∧ inL c = true := by
  refine at_all (fun c => inL c = true) h0 h1 ?_
  decide +kernel
theorem nm_of {x : Str} (h1 : x.cps.toList.all inL = true) (h2 : 1 ≤ x.length) (h3 : x.length ≤ 8) : Nm x := ⟨h1, h2, h3⟩
/-- a letter put in -/
theorem nm_put {x : Str} {c s : Nat} (h : x.cps.toList.all inL = true) (hl : x.length ≤ 7) (hc : inL c = true) (hs : s ≤ x.length) : Nm (cutS x none (some (s : Int)) ++ (⟨#[c]⟩ : Str) ++ cutS x (some (s : Int)) none) := by
  have e : (cutS x none (some (s : Int)) ++ (⟨#[c]⟩ : Str) ++ cutS x (some (s : Int)) none).cps.toList = x.cps.toList.take s ++ [c] ++ x.cps.toList.drop s := by
    rw [app_list, app_list, cutS_hi, cutS_lo]
  have el : (cutS x none (some (s : Int)) ++ (⟨#[c]⟩ : Str) ++ cutS x (some (s : Int)) none).length = x.length + 1 := by
    rw [slen, e]
    simp only [List.length_append, List.length_take, List.length_drop, List.length_cons, List.length_nil, ← slen]
    omega
  refine ⟨?_, by omega, by omega⟩
  rw [e, List.all_append, List.all_append, Bool.and_eq_true, Bool.and_eq_true]
  rw [List.all_eq_true] at h
  refine ⟨⟨?_, by simp [hc]⟩, ?_⟩
  · exact List.all_eq_true.mpr fun d hd => h d (List.mem_of_mem_take hd)
  · exact List.all_eq_true.mpr fun d hd => h d (List.mem_of_mem_drop hd)
theorem cutS_len (x : Str) (a b : Option Int) : (cutS x a b).length ≤ x.length := by
  rw [slen, slen]
  unfold cutS
  show ((x.cps.toList.drop _).take _).length ≤ _
  rw [List.length_take, List.length_drop]; omega
end DL
namespace DL
open PySem L2 PyProof.Rows
theorem cnt_pos (q : Rdr) : 1 ≤ q.cnt := by cases q <;> simp only [Rdr.cnt] <;> omega
theorem cnts_app (rs qs : List Rdr) : cnts (rs ++ qs) = cnts rs + cnts qs := by
  induction rs with
  | nil => simp [cnts]
  | cons q rs ih => simp only [List.cons_append, cnts, ih]; omega
theorem cnts_ge (rs : List Rdr) : rs.length ≤ cnts rs := by
  induction rs with
  | nil => simp [cnts]
  | cons q rs ih =>
    have := cnt_pos q
    simp only [cnts, List.length_cons]; omega
end DL
namespace DL
open PySem L2 PyProof.Rows
section
variable {X : Cx}
def rEqT0 (K : Fg) : R2 := fun x y H Q => ∃ a b xs, x = .ref a ∧ y = .ref b ∧ SqT K H a xs ∧ SqT K H b [] ∧ Q (.bl xs.isEmpty) H
theorem op_eqT0 (hu : X.A.units + 64 < cLine) : OpR X (compareOp .Eq) (rEqT0 X.K) := by
  intro pins s σ H x y v u Q I rx ry h
  obtain ⟨a, b, xs, rfl, rfl, h1, h2, q⟩ := h
  obtain rfl : v = Value.ref a := rx
  obtain rfl : u = Value.ref b := ry
  obtain ⟨its, rv, p, _⟩ := I.tuple h1
  obtain ⟨its2, rv2, p2, _⟩ := I.tuple h2
  cases rv2
  have z := SeqAt.RcAt.tuples (A := X.A) (e := fun _ => true) (show s.heap.IsTuple a its.toArray from p) (show s.heap.IsTuple b ([] : List Value).toArray from p2) (by omega) (fun j j1 j2 => by simp at j2)
  refine z X.prog X.w X.xe _ ⟨.bl xs.isEmpty, H, I, ?_, q⟩
  have hl := rv.length
  have e : ((List.range (min its.toArray.size ([] : List Value).toArray.size)).all (fun _ => true) && its.toArray.size == ([] : List Value).toArray.size) = xs.isEmpty := by
    cases xs with
    | nil => cases rv; rfl
    | cons x xs => cases rv; simp
  rw [e]; rfl
def fEqT0 : F2 := fun a b => match a, b with
  | .tuple ds, .tuple [] => some (.val (.bool ds.isEmpty))
  | _, _ => none
theorem opd_eqT0 (hu : X.A.units + 64 < cLine) : OpD X (compareOp .Eq) fEqT0 := by
  refine ⟨_, op_eqT0 hu, fun e F r s H v1 v2 d1 d2 z Q k l1 l2 ef w => ?_⟩
  unfold fEqT0 at ef
  split at ef
  · rename_i ds
    cases ef
    obtain ⟨a, xs, rfl, h1, h2, _⟩ := l1.tup k.sub
    obtain ⟨b, ys, rfl, h3, h4, _⟩ := l2.tup k.sub
    cases h4
    refine ⟨a, b, xs, rfl, rfl, h1, h3, ?_⟩
    rw [h2.isEmpty]
    exact w _ F H k (Sub.refl F) (.val (.bl _))
  · cases ef
def rEqL0 (K : Fg) : R2 := fun x y H Q => ∃ a b xs, x = .ref a ∧ y = .ref b ∧ SqL K H a xs ∧ SqL K H b [] ∧ Q (.bl xs.isEmpty) H
theorem op_eqL0 (hu : X.A.units + 64 < cLine) : OpR X (compareOp .Eq) (rEqL0 X.K) := by
  intro pins s σ H x y v u Q I rx ry h
  obtain ⟨a, b, xs, rfl, rfl, h1, h2, q⟩ := h
  obtain rfl : v = Value.ref a := rx
  obtain rfl : u = Value.ref b := ry
  obtain ⟨its, rv, p, _⟩ := I.list h1
  obtain ⟨its2, rv2, p2, _⟩ := I.list h2
  cases rv2
  have hl := rv.length
  cases xs with
  | nil =>
    cases rv
    have z := SeqAt.RcAt.lists (A := X.A) (e := fun _ => true) p.isList p2.isList rfl (by omega) (fun j j1 j2 => by simp at j2)
    exact z X.prog X.w X.xe _ ⟨.bl true, H, I, rfl, q⟩
  | cons x xs =>
    have z := SeqAt.RcAt.lists_lengths (A := X.A) p.isList p2.isList (by rw [List.size_toArray, ← hl]; rfl) (by omega)
    exact z X.prog X.w X.xe _ ⟨.bl false, H, I, rfl, q⟩
def fEqL0 : F2 := fun a b => match a, b with
  | .list ds, .list [] => some (.val (.bool ds.isEmpty))
  | _, _ => none
theorem opd_eqL0 (hu : X.A.units + 64 < cLine) : OpD X (compareOp .Eq) fEqL0 := by
  refine ⟨_, op_eqL0 hu, fun e F r s H v1 v2 d1 d2 z Q k l1 l2 ef w => ?_⟩
  unfold fEqL0 at ef
  split at ef
  · rename_i ds
    cases ef
    obtain ⟨a, xs, rfl, h1, h2⟩ := l1.lst k.sub
    obtain ⟨b, ys, rfl, h3, h4⟩ := l2.lst k.sub
    cases h4
    refine ⟨a, b, xs, rfl, rfl, .inl h1, .inl h3, ?_⟩
    rw [h2.isEmpty]
    exact w _ F H k (Sub.refl F) (.val (.bl _))
  · cases ef
def fEqU : F2 := orF (orF fEqT0 fEqL0) fEq
theorem opd_eqU (hu : X.A.units + 64 < cLine) : OpD X (compareOp .Eq) fEqU := OpD.or (OpD.or (opd_eqT0 hu) (opd_eqL0 hu)) (opd_eq hu)
def kEqU : D → D → (R → Prop) → Prop
  | .tuple ds, .tuple [], K => K (.val (.bool ds.isEmpty))
  | .list ds, .list [], K => K (.val (.bool ds.isEmpty))
  | a, b, K => kEq a b K
def oEqU : OpK := ⟨fEqU, kEqU, fun d1 d2 K h => by
  have key : (∃ ds, d1 = .tuple ds ∧ d2 = .tuple []) ∨ (∃ ds, d1 = .list ds ∧ d2 = .list []) ∨ (orF fEqT0 fEqL0 d1 d2 = none ∧ kEqU d1 d2 K = kEq d1 d2 K) := by
    cases d1 <;> cases d2 <;> first
      | exact .inr (.inr ⟨rfl, rfl⟩)
      | (rename_i a b
         cases b with
         | nil => first | exact .inl ⟨_, rfl, rfl⟩ | exact .inr (.inl ⟨_, rfl, rfl⟩)
         | cons x y => exact .inr (.inr ⟨rfl, rfl⟩))
  rcases key with ⟨ds, rfl, rfl⟩ | ⟨ds, rfl, rfl⟩ | ⟨e1, e2⟩
  · exact ⟨_, rfl, h⟩
  · exact ⟨_, rfl, h⟩
  · rw [e2] at h
    obtain ⟨z, e, hz⟩ := oEq.ok _ _ _ h
    refine ⟨z, ?_, hz⟩
    show (match orF fEqT0 fEqL0 d1 d2 with | some z => some z | none => fEq d1 d2) = some z
    rw [e1]
    exact e⟩
def mDNew : ME := fun r P => P (.own (.K [])) r
theorem de_dnew {pos : Pos} : DE X (.Dict [] [] pos) mDNew := fun e => PE.imp pe_dnewK fun s H Q ⟨F, r, k, P, hm, hP⟩ p hp => by
  refine hP _ r _ F (upd H p (.dK [])) hm (k.alloc hp) (Sub.refl F) ?_
  obtain ⟨h1, h2, h3⟩ := k.free hp
  exact .own upd_same (.K rfl .nil) h1 h2 h3 (k.nobox hp)
end
def fnd (c : Nat) : Int := Txt.find SIGNS ⟨#[c]⟩
theorem find_one (x : Str) (c : Nat) : (Txt.find x ⟨#[c]⟩ = -1 ∧ c ∉ x.cps.toList) ∨ ∃ i : Nat, Txt.find x ⟨#[c]⟩ = (i : Int) ∧ x.cps.toList[i]? = some c := by
  rcases find_whole x ⟨#[c]⟩ with ⟨h1, h2⟩ | ⟨i, h1, h2, _⟩
  · refine .inl ⟨h1, fun hm => ?_⟩
    obtain ⟨i, hi, e⟩ := List.getElem_of_mem hm
    exact h2 i ((StrLaws.subAt_one x c i).mpr (by rw [List.getElem?_eq_getElem hi, e]))
  · exact .inr ⟨i, h1, (StrLaws.subAt_one x c i).mp h2⟩
theorem fnd_neg (c : Nat) : fnd c = -1 ↔ inS c = false := by
  unfold fnd inS
  rcases find_one SIGNS c with ⟨h1, h2⟩ | ⟨i, h1, h2⟩
  · rw [h1, decide_eq_false h2]; simp
  · rw [h1, decide_eq_true (List.mem_of_getElem? h2)]
    constructor
    · intro h; omega
    · intro h; cases h
theorem fnd_lt {c d : Nat} (hc : inS c = true) (hd : inS d = true) : fnd c < fnd d ↔ c < d := by
  have hc' : ¬ fnd c = -1 := fun e => by rw [(fnd_neg c).mp e] at hc; cases hc
  have hd' : ¬ fnd d = -1 := fun e => by rw [(fnd_neg d).mp e] at hd; cases hd
  unfold fnd at *
  rcases find_one SIGNS c with ⟨h1, h2⟩ | ⟨i, h1, h2⟩
  · exact absurd h1 hc'
  rcases find_one SIGNS d with ⟨g1, g2⟩ | ⟨j, g1, g2⟩
  · exact absurd g1 hd'
  rw [h1, g1]
  have P := List.pairwise_iff_getElem.mp SIGNS_rising
  obtain ⟨hi, e1⟩ := List.getElem?_eq_some_iff.mp h2
  obtain ⟨hj, e2⟩ := List.getElem?_eq_some_iff.mp g2
  constructor
  · intro h
    have := P i j hi hj (by omega)
    rw [e1, e2] at this; exact this
  · intro h
    rcases Nat.lt_trichotomy i j with q | q | q
    · omega
    · subst q; rw [e1] at e2; omega
    · have := P j i hj hi q
      rw [e1, e2] at this; omega
theorem in_fnd (l : List Nat) : flatIn (.int (-1)) (l.map fun c => PyData.int (fnd c)) = !l.all inS := by
  induction l with
  | nil => rfl
  | cons c l ih =>
    have e : flatIn (.int (-1)) ((c :: l).map fun c => PyData.int (fnd c)) = (PyData.eqv (.int (fnd c)) (.int (-1)) || flatIn (.int (-1)) (l.map fun c => PyData.int (fnd c))) := rfl
    have e2 : PyData.eqv (.int (fnd c)) (.int (-1)) = !inS c := by
      have h := fnd_neg c
      show (fnd c == -1) = !inS c
      cases hc : inS c with
      | true =>
        rw [hc] at h
        have : ¬ fnd c = -1 := fun z => by have := h.mp z; cases this
        simpa using this
      | false => simpa using h.mpr hc
    rw [e, e2, ih, List.all_cons, Bool.not_and]
/-- no place stands at or ahead of the one before it -/
theorem rising_at : ∀ l : List Nat, l.all inS = true → (((List.range (l.length - 1)).filter fun i => decide (fnd (l.getD (i + 1) 0) ≤ fnd (l.getD i 0))) = [] ↔ rising l = true) := by
  intro l hl
  rw [List.all_eq_true] at hl
  rw [List.filter_eq_nil_iff, rising_iff, List.pairwise_iff_getElem]
  have g : ∀ i (h : i < l.length), l.getD i 0 = l[i] := fun i h => by simp [List.getD, h]
  constructor
  · intro h i j hi hj hij
    have step : ∀ k, i + k + 1 < l.length → l.getD i 0 < l.getD (i + k + 1) 0 := by
      intro k
      induction k with
      | zero =>
        intro hk
        have := h i (List.mem_range.mpr (by omega))
        rw [decide_eq_true_eq, Int.not_le] at this
        have q := (fnd_lt (hl _ (by rw [g i (by omega)]; exact List.getElem_mem _)) (hl _ (by rw [g (i + 1) hk]; exact List.getElem_mem _))).mp this
        exact q
      | succ k ih =>
        intro hk
        have a := ih (by omega)
        have := h (i + k + 1) (List.mem_range.mpr (by omega))
        rw [decide_eq_true_eq, Int.not_le] at this
        have q := (fnd_lt (hl _ (by rw [g (i + k + 1) (by omega)]; exact List.getElem_mem _)) (hl _ (by rw [g (i + k + 1 + 1) (by omega)]; exact List.getElem_mem _))).mp this
        exact Nat.lt_trans a q
    have := step (j - i - 1) (by omega)
    rw [show i + (j - i - 1) + 1 = j by omega, g i hi, g j hj] at this
    exact this
  · intro h i hi
    rw [List.mem_range] at hi
    rw [decide_eq_true_eq, Int.not_le]
    rw [g i (by omega), g (i + 1) (by omega)]
    exact (fnd_lt (hl _ (List.getElem_mem _)) (hl _ (List.getElem_mem _))).mpr (h i (i + 1) (by omega) (by omega) (by omega))
theorem lc_filt {vs : List Nat} {g : GT} {tt : MT} {te : ME} {P : List D → Rho → Prop} {r : Rho} {α : Type} (f gv : α → D) (p : α → Bool) {as : List α}
    (h : ∀ a ∈ as, ∀ ds acc, acc.length < sizeLine → (p a = true → lcM vs g tt te P ds (acc ++ [gv a]) r) → (p a = false → lcM vs g tt te P ds acc r) → lcM vs g tt te P (f a :: ds) acc r)
    (hz : as.length < sizeLine) (hp : P ((as.filter p).map gv) r) : Lc vs g tt te P (as.map f) [] r := by
  have go : ∀ (bs : List α) (acc : List D), (∀ b ∈ bs, b ∈ as) → acc.length + bs.length < sizeLine → P (acc ++ (bs.filter p).map gv) r → lcM vs g tt te P (bs.map f) acc r := by
    intro bs
    induction bs with
    | nil => intro acc _ _ q; simpa [lcM] using q
    | cons b bs ih =>
      intro acc hm hl q
      simp only [List.length_cons] at hl
      have hm' := fun x hx => hm x (List.mem_cons_of_mem _ hx)
      refine h b (hm b List.mem_cons_self) _ acc (by omega) (fun e => ih _ hm' ?_ ?_) (fun e => ih _ hm' (by omega) ?_)
      · simp only [List.length_append, List.length_cons, List.length_nil]; omega
      · rw [List.filter_cons, if_pos e] at q; simpa using q
      · rw [List.filter_cons, if_neg (by rw [e]; simp)] at q; exact q
  exact ⟨go as [] (fun _ h => h) (by simpa using hz) (by simpa using hp)⟩
theorem flatD_ints {α : Type} (f : α → Int) (as : List α) : (as.map fun a => PyData.int (f a)).all flatD = true := by
  induction as with
  | nil => rfl
  | cons x xs ih => simp [flatD, ih]
end DL
namespace DL
theorem okR2_of {i j : Int} (h1 : -1000000000000000000 ≤ i) (h2 : i ≤ 1000000000000000000) (h3 : -1000000000000000000 ≤ j) (h4 : j ≤ 1000000000000000000) : (okR i && okR j) = true := by rw [okR_of h1 h2, okR_of h3 h4]; rfl
end DL
namespace DL
theorem map_getD {l : List Nat} {i : Nat} (h : i < l.length) (f : Nat → D) : (l.map f)[i]? = some (f (l.getD i 0)) := by
  have e : l.getD i 0 = l[i] := by rw [List.getD_eq_getElem?_getD, List.getElem?_eq_getElem h]; rfl
  rw [List.getElem?_map, List.getElem?_eq_getElem h, e]; rfl
end DL
namespace DL
open PySem L2 PyProof.Rows
theorem eqv_str {a w : Str} (h : ¬ w = a) : PyData.eqv (.str a) (.str w) = false := by
  show (a == w) = false
  have : ¬ a = w := fun e => h e.symm
  simpa using this
/-- the words, or none of them -/
theorem word_cases (w : Str) : (w = "nothing" ∨ w = "never") ∨ (w = "sign" ∨ w = "but") ∨ (w = "name" ∨ w = "again") ∨ (w = "row" ∨ w = "choice") ∨ (w = "many" ∨ w = "maybe" ∨ w = "ahead" ∨ w = "not") ∨ (w = "hold" ∨ w = "tag") ∨ w = "make" ∨
    (tLook FORMS w = none ∧ flatIn (.str w) [.str "nothing", .str "never"] = false ∧ flatIn (.str w) [.str "sign", .str "but"] = false ∧ flatIn (.str w) [.str "name", .str "again"] = false ∧ flatIn (.str w) [.str "row", .str "choice"] = false ∧ flatIn (.str w) [.str "many", .str "maybe", .str "ahead", .str "not"] = false ∧ flatIn (.str w) [.str "hold", .str "tag"] = false ∧ ¬ w = "make") := by
  by_cases h1 : w = "nothing"
  · exact .inl (.inl h1)
  by_cases h2 : w = "never"
  · exact .inl (.inr h2)
  by_cases h3 : w = "sign"
  · exact .inr (.inl (.inl h3))
  by_cases h4 : w = "but"
  · exact .inr (.inl (.inr h4))
  by_cases h5 : w = "name"
  · exact .inr (.inr (.inl (.inl h5)))
  by_cases h6 : w = "again"
  · exact .inr (.inr (.inl (.inr h6)))
  by_cases h7 : w = "row"
  · exact .inr (.inr (.inr (.inl (.inl h7))))
  by_cases h8 : w = "choice"
  · exact .inr (.inr (.inr (.inl (.inr h8))))
  by_cases h9 : w = "many"
  · exact .inr (.inr (.inr (.inr (.inl (.inl h9)))))
  by_cases h10 : w = "maybe"
  · exact .inr (.inr (.inr (.inr (.inl (.inr (.inl h10))))))
  by_cases h11 : w = "ahead"
  · exact .inr (.inr (.inr (.inr (.inl (.inr (.inr (.inl h11)))))))
  by_cases h12 : w = "not"
  · exact .inr (.inr (.inr (.inr (.inl (.inr (.inr (.inr h12)))))))
  by_cases h13 : w = "hold"
  · exact .inr (.inr (.inr (.inr (.inr (.inl (.inl h13))))))
  by_cases h14 : w = "tag"
  · exact .inr (.inr (.inr (.inr (.inr (.inl (.inr h14))))))
  by_cases h15 : w = "make"
  · exact .inr (.inr (.inr (.inr (.inr (.inr (.inl h15))))))
  refine .inr (.inr (.inr (.inr (.inr (.inr (.inr ⟨?_, ?_, ?_, ?_, ?_, ?_, ?_, h15⟩))))))
  · have k : ∀ (a b : Str) (t : Tab), ¬ w = a → tLook ((a, b) :: t) w = tLook t w := fun a b t h => by
      rw [tLook, if_neg (fun e => h e.symm)]
    unfold FORMS
    rw [k _ _ _ h1, k _ _ _ h2, k _ _ _ h3, k _ _ _ h4, k _ _ _ h7, k _ _ _ h8, k _ _ _ h9, k _ _ _ h10, k _ _ _ h11, k _ _ _ h12, k _ _ _ h5, k _ _ _ h13, k _ _ _ h6, k _ _ _ h14, k _ _ _ h15]
    rfl
  · simp only [flatIn, List.any_cons, List.any_nil, eqv_str h1, eqv_str h2, Bool.or_self]
  · simp only [flatIn, List.any_cons, List.any_nil, eqv_str h3, eqv_str h4, Bool.or_self]
  · simp only [flatIn, List.any_cons, List.any_nil, eqv_str h5, eqv_str h6, Bool.or_self]
  · simp only [flatIn, List.any_cons, List.any_nil, eqv_str h7, eqv_str h8, Bool.or_self]
  · simp only [flatIn, List.any_cons, List.any_nil, eqv_str h9, eqv_str h10, eqv_str h11, eqv_str h12, Bool.or_self]
  · simp only [flatIn, List.any_cons, List.any_nil, eqv_str h13, eqv_str h14, Bool.or_self]
end DL
namespace DL
open PySem L2 PyProof.Rows
mutual
def okDB : D → Bool
  | .none => true
  | .bool _ => true
  | .int i => decide (-100000000000000000000000000000000000000000000000000 < i) && decide (i < 100000000000000000000000000000000000000000000000000)
  | .str x => okSB x
  | .list xs => okDBs xs
  | .tuple xs => okDBs xs
  | .dict kvs => okDBk kvs
def okDBs : List D → Bool
  | [] => true
  | d :: ds => okDB d && okDBs ds
def okDBk : List (D × D) → Bool
  | [] => true
  | (a, b) :: r => okDB a && okDB b && okDBk r
end
mutual
theorem okDB_ok : ∀ {d : D}, okDB d = true → okD d
  | .none, _ => trivial
  | .bool _, _ => trivial
  | .int i, h => by
    have h2 : -100000000000000000000000000000000000000000000000000 < i ∧ i < 100000000000000000000000000000000000000000000000000 := by simpa [okDB] using h
    exact h2
  | .str x, h => okS_of h
  | .list xs, h => okDBs_ok h
  | .tuple xs, h => okDBs_ok h
  | .dict kvs, h => okDBk_ok h
theorem okDBs_ok : ∀ {ds : List D}, okDBs ds = true → okDs ds
  | [], _ => trivial
  | d :: ds, h => by
    simp only [okDBs, Bool.and_eq_true] at h
    exact ⟨okDB_ok h.1, okDBs_ok h.2⟩
theorem okDBk_ok : ∀ {ds : List (D × D)}, okDBk ds = true → okDk ds
  | [], _ => trivial
  | (a, b) :: ds, h => by
    simp only [okDBk, Bool.and_eq_true] at h
    exact ⟨okDB_ok h.1.1, okDB_ok h.1.2, okDBk_ok h.2⟩
end
/-- plain: texts of signs, no list, no dict -/
def Pl (d : D) : Prop := okD d ∧ noList d = true ∧ d.hasDict = false
def Pls (ds : List D) : Prop := ∀ d ∈ ds, Pl d
theorem noListA_iff : ∀ {ds : List D}, noListA ds = true ↔ ∀ d ∈ ds, noList d = true
  | [] => by simp [noListA]
  | d :: ds => by simp [noListA, noListA_iff (ds := ds)]
theorem Pl.tup {ds : List D} : Pl (.tuple ds) ↔ Pls ds := by
  unfold Pl Pls
  constructor
  · rintro ⟨h1, h2, h3⟩ d hd
    exact ⟨okDs_iff.mp h1 d hd, noListA_iff.mp h2 d hd, hasDictAll_iff.mp (by simpa [PyData.hasDict] using h3) d hd⟩
  · intro h
    refine ⟨okDs_iff.mpr fun d hd => (h d hd).1, noListA_iff.mpr fun d hd => (h d hd).2.1, ?_⟩
    have := hasDictAll_iff.mpr fun d hd => (h d hd).2.2
    simpa [PyData.hasDict] using this
mutual
theorem Rdr.noList : ∀ r : Rdr, DL.noList r.toD = true
  | .l0 w => by simp [Rdr.toD, DL.noList, noListA]
  | .l1 w x => by simp [Rdr.toD, DL.noList, noListA]
  | .ps w rs => by simp [Rdr.toD, DL.noList, noListA, noLists rs]
  | .un w r => by simp [Rdr.toD, DL.noList, noListA, Rdr.noList r]
  | .bi w x r => by simp [Rdr.toD, DL.noList, noListA, Rdr.noList r]
theorem noLists : ∀ rs : List Rdr, noListA (toDs rs) = true
  | [] => by simp [toDs, noListA]
  | r :: rs => by simp [toDs, noListA, Rdr.noList r, noLists rs]
end
theorem Rdr.pl {r : Rdr} (h : r.wf) : Pl r.toD := ⟨Rdr.okD r h.good, Rdr.noList r, Rdr.noDict r⟩
/-- what comes of a plain thing of size n and depth k by one change -/
def Bt (n k : Nat) (o : D) : Prop := okD o ∧ wt o ≤ n ∧ o.depth ≤ k ∧ (noList o = true ∨ o.hasDict = false)
theorem Bt.mono {n k n' k' : Nat} {o : D} (h : Bt n k o) (h1 : n ≤ n') (h2 : k ≤ k') : Bt n' k' o := ⟨h.1, Nat.le_trans h.2.1 h1, Nat.le_trans h.2.2.1 h2, h.2.2.2⟩
theorem Pl.bt {d : D} (h : Pl d) : Bt (wt d) d.depth d := ⟨h.1, Nat.le_refl _, Nat.le_refl _, .inl h.2.1⟩
theorem Bt.fit {n k : Nat} {o : D} (h : Bt n k o) (h1 : n ≤ 1000000) (h2 : k ≤ 64) : Fit o := ⟨h.1, Nat.le_trans h.2.1 h1, Nat.le_trans h.2.2.1 h2⟩
theorem Bt.repr {n k : Nat} {o : D} (h : Bt n k o) (h1 : n ≤ 1000000) (h2 : k ≤ 64) : reprOk o = true := by
  obtain ⟨a, b, c, d⟩ := h
  have := shown_le o a
  have e : sizeLine = 16777216 := sizeLine_eq
  unfold reprOk
  rw [ok_showable o a, decide_eq_true (by omega : o.shown.length ≤ sizeLine), decide_eq_true (by omega : o.depth ≤ 64)]
  rcases d with d | d
  · rw [d]; simp
  · rw [d]; rfl
theorem wts_app (a b : List D) : wts (a ++ b) = wts a + wts b := by
  induction a with
  | nil => simp [wts]
  | cons x a ih => simp only [List.cons_append, wts, ih]; omega
theorem depthAll_app (a b : List D) : PyData.depthAll (a ++ b) = max (PyData.depthAll a) (PyData.depthAll b) := by
  induction a with
  | nil => simp [PyData.depthAll]
  | cons x a ih => simp only [List.cons_append, PyData.depthAll, ih]; omega
theorem okDs_app {a b : List D} (h : okDs a) (g : okDs b) : okDs (a ++ b) := okDs_iff.mpr fun d hd => by
  rcases List.mem_append.mp hd with hd | hd
  · exact okDs_iff.mp h d hd
  · exact okDs_iff.mp g d hd
/-- one thing of a plain tuple is another -/
theorem Bt.swap {A B : List D} {o : D} {n k : Nat} (hA : Pls A) (hB : Pls B) (h : Bt n k o) : Bt (wts A + wts B + n + 6) (max (max (PyData.depthAll A) (PyData.depthAll B)) k + 1) (.tuple (A ++ [o] ++ B)) := by
  obtain ⟨a, b, c, d⟩ := h
  refine ⟨okDs_app (okDs_app (okDs_iff.mpr fun d hd => (hA d hd).1) ⟨a, trivial⟩) (okDs_iff.mpr fun d hd => (hB d hd).1), ?_, ?_, ?_⟩
  · rw [wt, wts_app, wts_app, wts, wts]; omega
  · simp only [PyData.depth, depthAll_app, PyData.depthAll]; omega
  · have nl : ∀ {C : List D}, Pls C → noListA C = true := fun hC => noListA_iff.mpr fun d hd => (hC d hd).2.1
    have nd : ∀ {C : List D}, Pls C → PyData.hasDictAll C = false := fun hC => hasDictAll_iff.mpr fun d hd => (hC d hd).2.2
    rcases d with d | d
    · refine .inl (noListA_iff.mpr fun x hx => ?_)
      rcases List.mem_append.mp hx with hx | hx
      · rcases List.mem_append.mp hx with hx | hx
        · exact (hA x hx).2.1
        · rw [List.mem_singleton.mp hx]; exact d
      · exact (hB x hx).2.1
    · refine .inr (hasDictAll_iff.mpr fun x hx => ?_)
      rcases List.mem_append.mp hx with hx | hx
      · rcases List.mem_append.mp hx with hx | hx
        · exact (hA x hx).2.2
        · rw [List.mem_singleton.mp hx]; exact d
      · exact (hB x hx).2.2
theorem Bt.plain {C : List D} (hC : Pls C) : Bt (wts C + 4) (PyData.depthAll C + 1) (.tuple C) := by
  have := (Pl.tup.mpr hC).bt
  exact this.mono (by rw [wt]; omega) (by simp only [PyData.depth]; omega)
theorem Bt.list {C : List D} (hC : Pls C) : Bt (wts C + 4) (PyData.depthAll C + 1) (.list C) := by
  refine ⟨okDs_iff.mpr fun d hd => (hC d hd).1, by rw [wt]; omega, by simp only [PyData.depth]; omega, .inr ?_⟩
  have := hasDictAll_iff.mpr fun d hd => (hC d hd).2.2
  simpa [PyData.hasDict] using this
/-- a list at a place -/
theorem split_at {ds : List D} {v : Int} (h0 : 0 ≤ v) (h1 : v < ds.length) : ∃ (A B : List D) (x : D), ds = A ++ x :: B ∧ cutD ds none (some v) = A ∧ cutD ds (some (v + 1)) none = B ∧ cutD ds (some v) none = x :: B ∧ atI ds v = some x := by
  obtain ⟨i, rfl⟩ := Int.eq_ofNat_of_zero_le h0
  have hi : i < ds.length := by omega
  refine ⟨ds.take i, ds.drop (i + 1), ds[i], ?_, cutD_hi ds i, ?_, ?_, at_nat (List.getElem?_eq_getElem hi)⟩
  · rw [← List.drop_eq_getElem_cons hi, List.take_append_drop]
  · rw [show (i : Int) + 1 = ((i + 1 : Nat) : Int) by omega, cutD_lo]
  · rw [cutD_lo, List.drop_eq_getElem_cons hi]
def constB (n k : Nat) (o : D) : Bool := okDB o && decide (wt o ≤ n) && decide (o.depth ≤ k) && (noList o || !o.hasDict)
theorem constB_ok {n k : Nat} {o : D} (h : constB n k o = true) : Bt n k o := by
  simp only [constB, Bool.and_eq_true, decide_eq_true_eq, Bool.or_eq_true, Bool.not_eq_true'] at h
  exact ⟨okDB_ok h.1.1.1, h.1.1.2, h.1.2, h.2⟩
end DL
namespace DL
open PySem L2 PyProof.Rows
def dPut (kvs : List (D × D)) (k : Key) (d : D) : List (D × D) :=
  if (kvs.any fun p => decide (kOf p.1 = some k)) = true then kvs.map (fun p => if kOf p.1 = some k then (p.1, d) else p) else kvs ++ [(kD k, d)]
theorem put_ok {K : Fg} {F : Hp} {kvs : List (Key × V)} {ds : List (D × D)} {k : Key} {v : V} {d : D} (h1 : ds.map (·.1) = kvs.map (fun p => kD p.1)) (h2 : RpA K F (kvs.map (·.2)) (ds.map (·.2))) (hv : Rp K F v d) :
    (dPut ds k d).map (·.1) = (putK kvs k v).map (fun p => kD p.1) ∧ RpA K F ((putK kvs k v).map (·.2)) ((dPut ds k d).map (·.2)) := by
  have hany : ∀ {kvs : List (Key × V)} {ds : List (D × D)}, ds.map (·.1) = kvs.map (fun p => kD p.1) → (ds.any fun p => decide (kOf p.1 = some k)) = kvs.any fun p => decide (p.1 = k) := by
    intro kvs
    induction kvs with
    | nil => intro ds h; cases ds with | nil => rfl | cons _ _ => cases h
    | cons q kvs ih =>
      intro ds h
      cases ds with
      | nil => cases h
      | cons p ds =>
        simp only [List.map_cons, List.cons.injEq] at h
        have e : decide (kOf p.1 = some k) = decide (q.1 = k) := by rw [h.1, kOf_kD]; simp
        rw [List.any_cons, List.any_cons, ih h.2, e]
  have hmap : ∀ {kvs : List (Key × V)} {ds : List (D × D)}, ds.map (·.1) = kvs.map (fun p => kD p.1) → RpA K F (kvs.map (·.2)) (ds.map (·.2)) →
      (ds.map (fun p => if kOf p.1 = some k then (p.1, d) else p)).map (·.1) = (kvs.map (fun kv => if kv.1 = k then (kv.1, v) else kv)).map (fun p => kD p.1) ∧
      RpA K F ((kvs.map (fun kv => if kv.1 = k then (kv.1, v) else kv)).map (·.2)) ((ds.map (fun p => if kOf p.1 = some k then (p.1, d) else p)).map (·.2)) := by
    intro kvs
    induction kvs with
    | nil => intro ds h _; cases ds with | nil => exact ⟨rfl, .nil⟩ | cons _ _ => cases h
    | cons q kvs ih =>
      intro ds h r
      cases ds with
      | nil => cases h
      | cons p ds =>
        simp only [List.map_cons, List.cons.injEq] at h
        cases r with
        | cons r1 r2 =>
          obtain ⟨g1, g2⟩ := ih h.2 r2
          simp only [List.map_cons]
          by_cases e : q.1 = k
          · have e2 : kOf p.1 = some k := by rw [h.1, kOf_kD, e]
            rw [if_pos e, if_pos e2]
            exact ⟨by rw [g1]; simp only [h.1], .cons hv g2⟩
          · have e2 : ¬ kOf p.1 = some k := by rw [h.1, kOf_kD]; intro z; exact e (Option.some.inj z)
            rw [if_neg e, if_neg e2]
            exact ⟨by rw [g1]; simp only [h.1], .cons r1 g2⟩
  unfold dPut putK
  rw [hany h1]
  split
  · exact hmap h1 h2
  · rw [List.map_append, List.map_append, List.map_append, List.map_append, h1]
    exact ⟨rfl, h2.append (.cons hv .nil)⟩
/-- the dict of slot i -/
def bxD (r : Rho) (i : Nat) : Option (Bool × List (D × D)) := match r[i]? with
  | some (some (.box b (.K kvs))) => some (b, kvs)
  | _ => none
theorem bxD_of {r : Rho} {i : Nat} {q : Bool × List (D × D)} (h : bxD r i = some q) : r[i]? = some (some (.box q.1 (.K q.2))) := by
  unfold bxD at h
  split at h
  · rename_i b kvs e; cases h; exact e
  · cases h
def isDc (r : Rho) (i : Nat) : Bool := (bxD r i).isSome
theorem Ok.dct {K : Fg} {e : En} {F : Hp} {r : Rho} {s : L2.St} {H : Hp} {i : Nat} {b : Bool} {ds : List (D × D)} (k : Ok K e F r s H) (h : r[i]? = some (some (Ce.box b (.K ds)))) :
    ∃ p kvs, s[i]? = some (some (V.ref p)) ∧ H p = some (.dK kvs) ∧ ds.map (·.1) = kvs.map (fun p => kD p.1) ∧ RpA K F (kvs.map (·.2)) (ds.map (·.2)) ∧ F p = none := by
  obtain ⟨p, o, h1, h2, h3, h4, _⟩ := k.box i b _ h
  cases h3 with
  | K q1 q2 => exact ⟨p, _, h1, h2, q1, q2, h4⟩
section
variable {X : Cx} {a b c : Expr} {ma mb mc : ME} {pos pos' p p' apos : Pos} {x : Str} {i : Nat}
/-- k in x, k not in x -/
def mDIn (neg : Bool) (i : Nat) (mb : ME) : ME := fun r P => mb r fun y r1 => onP (bxD r1 i) fun _ kvs => onO (look r1 y.tmp) fun d => onO (kOf d) fun k => P (.val (.bool (xor neg (dGet kvs k).isSome))) r1
theorem din_read {e : En} {neg : Bool} {s : L2.St} {H : Hp} {Q : VK} (h : T X.K e (mDIn neg i mb) s H Q) :
    (Tt X.K e (mTmp mb)) s H fun y H1 => tVar i s H1 fun x H2 => ∃ a o, x = .ref a ∧ DGet H2 a y o ∧ Q (.bl (xor neg o.isSome)) H2 := by
  obtain ⟨F, r, k, P, hm, hP⟩ := h
  refine ⟨F, r, k, fun y r1 => onP (bxD r1 i) fun _ kvs => onO (look r1 y) fun d => onO (kOf d) fun k => P (.val (.bool (xor neg (dGet kvs k).isSome))) r1, hm, fun y r1 v F1 H1 hy k1 q1 t1 => ?_⟩
  obtain ⟨bb, kvs, e1, h1⟩ := onP.ex hy
  obtain ⟨d, e2, h2⟩ := onO.ex h1
  obtain ⟨kk, e3, h3⟩ := onO.ex h2
  obtain ⟨ad, vs, g1, g2, g3, g4, _⟩ := k1.dct (bxD_of e1)
  have lk := (t1.look k1 e2).key e3
  subst lk
  refine ⟨.ref ad, g1, ad, valV vs kk, rfl, .k g2, ?_⟩
  have : (valV vs kk).isSome = (dGet kvs kk).isSome := by
    rcases val_get (k := kk) g3 g4 with ⟨z1, z2⟩ | ⟨_, _, z1, z2, _⟩ <;> rw [z1, z2] <;> rfl
  rw [this]
  exact hP _ r1 _ F1 H1 h3 k1 q1 (.val (.bl _))
theorem de_din (hu : X.A.units + 1 < cLine) (hN : X.N[i]? = some x) (hv : Vis X.env.scope x) (hb : DE X b mb) (hmk : behindInMarks .In (.Name x p) = false := by rfl) (hd : (x == ("__debug__" : Str)) = false := by decide) (hcd : (x == ("__classdict__" : Str)) = false := by decide) : DE X (.Compare b [.In] [.Name x p] pos) (mDIn false i mb) := fun e =>
  PE.imp (pe_cmp (pc_din hu (hb.tmp e) (pe_var hN hv hd hcd)) hmk) fun s H Q h => by
    have := din_read h
    simp only [Bool.false_xor] at this
    exact this
theorem PE.or {t u : TE} (h : PE X a t) (g : PE X a u) : PE X a (fun s H Q => t s H Q ∨ u s H Q) := ⟨fun pins s σ H Q I q => q.elim (h.run pins s σ H Q I) (g.run pins s σ H Q I)⟩
theorem PT.or {t u : TT} (h : PT X a t) (g : PT X a u) : PT X a (fun s H Q => t s H Q ∨ u s H Q) := ⟨fun pins s σ H Q I q => q.elim (h.run pins s σ H Q I) (g.run pins s σ H Q I)⟩
theorem PS.or {st : Stmt} {t u : TS} (h : PS X st t) (g : PS X st u) : PS X st (fun D s H => t D s H ∨ u D s H) := ⟨fun pins s σ H D I q => q.elim (h.run pins s σ H D I) (g.run pins s σ H D I)⟩
def mSel (i : Nat) (m n : ME) : ME := fun r P => match isDc r i with
  | true => m r P
  | false => n r P
theorem de_sel {m n : ME} (h : DE X a m) (g : DE X a n) : DE X a (mSel i m n) := fun e => PE.imp (PE.or (h e) (g e)) fun s H Q ⟨F, r, k, P, hm, hP⟩ => by
  unfold mSel at hm
  split at hm
  · exact .inl ⟨F, r, k, P, hm, hP⟩
  · exact .inr ⟨F, r, k, P, hm, hP⟩
/-- the pairs, one by one -/
def strictK (l : List (D × D)) (K : List (D × D) → Prop) : Prop := match l with
  | [] => K []
  | (a, b) :: l => strictK l fun l' => K ((a, b) :: l')
theorem strictK.ex : ∀ {l : List (D × D)} {K : List (D × D) → Prop}, strictK l K → K l
  | [], _, h => h
  | d :: l, K, h => strictK.ex (l := l) (K := fun l' => K (d :: l')) h
theorem Lk.dK {K : Fg} {F H : Hp} {v : V} {m : MB} {ds : List (D × D)} (h : ∃ p o, v = .ref p ∧ H p = some o ∧ MO K F o m) (e : m = .K ds) : ∃ a kvs, v = .ref a ∧ H a = some (.dK kvs) ∧ ds.map (·.1) = kvs.map (fun p => kD p.1) ∧ RpA K F (kvs.map (·.2)) (ds.map (·.2)) := by
  obtain ⟨p, o, h1, h2, h3⟩ := h
  subst e
  cases h3 with
  | K q1 q2 => exact ⟨p, _, h1, h2, q1, q2⟩
def mDLen (i : Nat) : ME := fun r P => onP (bxD r i) fun _ kvs => P (.val (.int kvs.length)) r
theorem de_dlen (hg : Gl X "len") (hm : X.mg "len" = none) (hN : X.N[i]? = some x) (hv : Vis X.env.scope x) (hs : starEach [.Name x p] X.env = [(false, eval (.Name x p) X.env)] := by rfl) (hpl : (backTo pos (starEach [] X.env)).any (·.1) = false := by rfl) (hd : (x == ("__debug__" : Str)) = false := by decide) (hcd : (x == ("__classdict__" : Str)) = false := by decide) :
    DE X (.Call (.Name "len" p') [.Name x p] [] pos) (mDLen i) := fun e =>
  PE.imp (pe_callB call_lenD hg hm boot_len (pa_cons (pe_var hN hv hd hcd) pa_nil hs)) fun s H Q ⟨F, r, k, P, hm, hP⟩ => by
    obtain ⟨bb, kvs, e1, h1⟩ := onP.ex hm
    obtain ⟨ad, vs, w1, w2, w3, w4, _⟩ := k.dct (bxD_of e1)
    have l2 : vs.length = kvs.length := by
      have := congrArg List.length w3
      simpa using this.symm
    refine ⟨.ref ad, w1, ad, vs, rfl, w2, ?_⟩
    rw [l2]
    exact hP _ r _ F H h1 k (Sub.refl F) (.val (.int _))
end
end DL
namespace DL
open PySem L2 PyProof.Rows
theorem pairs_of {K : Fg} {F : Hp} : ∀ {vs : List V} {ds : List D}, RpA K F vs ds → ∃ qs : List (V × D), qs.map (·.1) = vs ∧ qs.map (·.2) = ds ∧ ∀ q ∈ qs, Rp K F q.1 q.2
  | _, _, .nil => ⟨[], rfl, rfl, fun q h => by cases h⟩
  | _, _, .cons (v := v) (d := d) h r => by
    obtain ⟨qs, e1, e2, e3⟩ := pairs_of r
    exact ⟨(v, d) :: qs, by simp [e1], by simp [e2], fun q hq => by
      rcases List.mem_cons.mp hq with rfl | hq
      · exact h
      · exact e3 q hq⟩
end DL
namespace DL
open PySem L2 PyProof.Rows
def lcM2 (vs vs1 : List Nat) (g : GT) (tt : MT) (mi1 : MI) (g1 : GT) (tt1 : MT) (te : ME) (P : List D → Rho → Prop) : List D → List D → Rho → Prop
  | [], acc, r => P acc r
  | d :: ds, acc, r => onS (g d r) fun r1 => tt r1 fun b r2 => brK b (mi1 r2 fun ds1 r3 => strict (wipeR r3 vs1) fun r4 => Lc vs1 g1 tt1 te (fun acc' r' => strict (wipeR r' vs) fun r5 => lcM2 vs vs1 g tt mi1 g1 tt1 te P ds acc' r5) ds1 acc r4) (strict (wipeR r2 vs) fun r4 => lcM2 vs vs1 g tt mi1 g1 tt1 te P ds acc r4)
structure Lc2 (vs vs1 : List Nat) (g : GT) (tt : MT) (mi1 : MI) (g1 : GT) (tt1 : MT) (te : ME) (P : List D → Rho → Prop) (ds acc : List D) (r : Rho) : Prop where
  h : lcM2 vs vs1 g tt mi1 g1 tt1 te P ds acc r
def mLc2 (vs vs1 : List Nat) (mi : MI) (g : GT) (tt : MT) (mi1 : MI) (g1 : GT) (tt1 : MT) (te : ME) : ME := fun r P => mi r fun ds r1 => rqB (noBox r1 vs) (strict (wipeR r1 vs) fun r0 => Lc2 vs vs1 g tt mi1 g1 tt1 te (fun acc r2 => strict (backR r2 r1 vs) fun r3 => P (.own (.L acc)) r3) ds [] r0)
theorem wipe_sub {s : L2.St} {vs vs1 : List Nat} (h : ∀ i ∈ vs1, i ∈ vs) : wipe (wipe s vs1) vs = wipe s vs := by
  apply List.ext_getElem?
  intro j
  rw [wipe_get, wipe_get, wipe_get, wipe_length]
  by_cases h1 : j ∈ vs ∧ j < s.length
  · rw [if_pos h1, if_pos h1]
  · rw [if_neg h1, if_neg h1, if_neg fun z => h1 ⟨h j z.1, z.2⟩]
section
variable {X : Cx} {elt tg iter tg1 iter1 c : Expr} {ifs ifs1 : List Expr} {scope : Scope} {own : List (Str × Nat)} {pos : Pos} {mi mi1 : MI} {g g1 : GT} {tt tt1 : MT} {te : ME} {vs vs1 : List Nat}
theorem lc2_read {e : En} (hvs : vs = own.map (·.2)) (hsub : ∀ i ∈ vs1, i ∈ vs) {s : L2.St} {H : Hp} {Q : VK} (h : T X.K e (mLc2 vs vs1 mi g tt mi1 g1 tt1 te) s H Q) :
    ∀ (tg' : TG) (tt' : TT) (wi' : TI) (tg1' : TG) (tt1' : TT) (te' : TE), (∀ e', ∀ v s H Q, TGt X.K e' vs g v s H Q → tg' v s H Q) → (∀ e', ∀ s H Q, TB X.K e' tt s H Q → tt' s H Q) → (∀ e', ∀ s H Q, TIt X.K e' mi1 s H Q → wi' s H Q) →
      (∀ e', ∀ v s H Q, TGt X.K e' vs1 g1 v s H Q → tg1' v s H Q) → (∀ e', ∀ s H Q, TB X.K e' tt1 s H Q → tt1' s H Q) → (∀ e', ∀ s H Q, Tt X.K e' (mTmp te) s H Q → te' s H Q) → tLc2 (TIt X.K e mi) tg' tt' wi' tg1' tt1' te' (own.map (·.2)) vs1 s H Q := by
  intro tg' tt' wi' tg1' tt1' te' i1 i2 i6 i4 i5 i3
  rw [← hvs]
  obtain ⟨F, r, k, P, hm, hP⟩ := h
  refine ⟨F, r, k, _, hm, fun ds r1 F1 H1 J hx k1 q1 ok p hp => ?_⟩
  obtain ⟨nb, hx2⟩ := rqB.ex hx
  have hl := hx2.ex.h
  clear hx hx2
  have fr := k1.free hp
  have hF0 : e.F0 p = none := by
    cases q : e.F0 p with
    | none => rfl
    | some u => rw [k1.f0 p u q] at fr; cases fr.1
  generalize hPP : (fun (acc : List D) (r2 : Rho) => strict (backR r2 r1 vs) fun r3 => P (.own (.L acc)) r3) = PP at hl
  refine ⟨fun i m H => ∃ F r xs acc, Ok X.K (e.keep p (.lst xs)) F r (wipe s vs) H ∧ Sub F1 F ∧ RpA X.K F xs acc ∧ i ≤ ds.length ∧ m = ds.length - i ∧ lcM2 vs vs1 g tt mi1 g1 tt1 te PP (ds.drop i) acc r, ?_, ?_⟩
  · have kw : Ok X.K e F1 (wipeR r1 vs) (wipe s vs) (upd H1 p (.lst [])) := (k1.wipe vs).alloc hp
    exact ⟨_, F1, _, [], [], kw.keep upd_same fr.1 ((k1.wipe vs).nobox hp), Sub.refl _, .nil, Nat.zero_le _, rfl, by rw [List.drop_zero]; exact hl⟩
  · rintro i m H2 ⟨F2, r2, xs, acc, k2, q2, ra, hi, rfl, hl2⟩
    by_cases hn : i < ds.length
    · refine .inr ⟨ok.go i H2 (q2.trans k2.sub) hn, fun H => ∃ F r xs acc, Ok X.K (e.keep p (.lst xs)) F r (wipe s vs) H ∧ Sub F1 F ∧ RpA X.K F xs acc ∧ lcM2 vs vs1 g tt mi1 g1 tt1 te PP (ds.drop (i + 1)) acc r, fun H3 ⟨F3, r3, xs3, acc3, k3, q3, ra3, hl3⟩ => ⟨_, by omega, F3, r3, xs3, acc3, k3, q3, ra3, hn, rfl, hl3⟩, fun x H3 hy => ?_⟩
      obtain ⟨d, ed, F3, k3, q3, rp⟩ := ok.yld i H2 x H3 hy _ F2 r2 _ k2 q2 hn
      rw [drop_cons ed] at hl2
      obtain ⟨r4, eg, hb4⟩ := onS.ex hl2
      refine i1 _ _ _ _ _ ⟨F3, r2, d, r4, k3, rp, eg, fun s5 F5 H5 k5 q5 w5 => ⟨w5.trans ?_, i2 _ _ _ _ ⟨F5, r4, k5, _, hb4, fun b r6 F6 H6 hb6 k6 q6 => ?_⟩⟩⟩
      · apply List.ext_getElem?
        intro j
        rw [wipe_get, wipe_get, wipe_length]
        split <;> rfl
      · have ww : wipe s5 vs = wipe s vs := w5.trans (by
          apply List.ext_getElem?
          intro j
          rw [wipe_get, wipe_get, wipe_length]
          split <;> rfl)
        have q16 : Sub F1 F6 := ((q2.trans q3).trans q5).trans q6
        have q26 : Sub F2 F6 := (q3.trans q5).trans q6
        cases b with
        | false =>
          have hb6 := strict.ex hb6
          refine iteF ?_
          refine ⟨F6, _, xs, acc, ?_, q16, ra.mono q26, hb6⟩
          rw [← ww]
          exact k6.wipe vs
        | true =>
          refine iteT ?_
          refine i6 _ _ _ _ ⟨F6, r6, k6, _, hb6, fun ds1 r7 F7 H7 J1 hx7 k7 q7 ok1 => ?_⟩
          have hl7 := (strict.ex hx7).h
          have q17 : Sub F1 F7 := q16.trans q7
          have q27 : Sub F2 F7 := q26.trans q7
          generalize hRR : (fun (acc' : List D) (r' : Rho) => strict (wipeR r' vs) fun r5 => lcM2 vs vs1 g tt mi1 g1 tt1 te PP (ds.drop (i + 1)) acc' r5) = RR at hl7
          refine ⟨fun j m H => ∃ F r xs acc, Ok X.K (e.keep p (.lst xs)) F r (wipe s5 vs1) H ∧ Sub F7 F ∧ RpA X.K F xs acc ∧ j ≤ ds1.length ∧ m = ds1.length - j ∧ lcM vs1 g1 tt1 te RR (ds1.drop j) acc r, ?_, ?_⟩
          · exact ⟨_, F7, _, xs, acc, k7.wipe vs1, Sub.refl _, ra.mono q27, Nat.zero_le _, rfl, by rw [List.drop_zero]; exact hl7⟩
          · rintro j m H8 ⟨F8, r8, xs8, acc8, k8, q8, ra8, hj, rfl, hl8⟩
            by_cases hn1 : j < ds1.length
            · refine .inr ⟨ok1.go j H8 (q8.trans k8.sub) hn1, fun H => ∃ F r xs acc, Ok X.K (e.keep p (.lst xs)) F r (wipe s5 vs1) H ∧ Sub F7 F ∧ RpA X.K F xs acc ∧ lcM vs1 g1 tt1 te RR (ds1.drop (j + 1)) acc r, fun H9 ⟨F9, r9, xs9, acc9, k9, q9, ra9, hl9⟩ => ⟨_, by omega, F9, r9, xs9, acc9, k9, q9, ra9, hn1, rfl, hl9⟩, fun x9 H9 hy9 => ?_⟩
              obtain ⟨d9, ed9, F9, k9, q9, rp9⟩ := ok1.yld j H8 x9 H9 hy9 _ F8 r8 _ k8 q8 hn1
              rw [drop_cons ed9] at hl8
              obtain ⟨ra4, eg9, hb9⟩ := onS.ex hl8
              refine i4 _ _ _ _ _ ⟨F9, r8, d9, ra4, k9, rp9, eg9, fun s10 F10 H10 k10 q10 w10 => ⟨w10.trans ?_, i5 _ _ _ _ ⟨F10, ra4, k10, _, hb9, fun b r11 F11 H11 hb11 k11 q11 => ?_⟩⟩⟩
              · apply List.ext_getElem?
                intro j
                rw [wipe_get, wipe_get, wipe_length]
                split <;> rfl
              · have ww1 : wipe s10 vs1 = wipe s5 vs1 := w10.trans (by
                  apply List.ext_getElem?
                  intro j
                  rw [wipe_get, wipe_get, wipe_length]
                  split <;> rfl)
                have q711 : Sub F7 F11 := ((q8.trans q9).trans q10).trans q11
                have q811 : Sub F8 F11 := (q9.trans q10).trans q11
                cases b with
                | false =>
                  have hb11 := strict.ex hb11
                  refine iteF ?_
                  refine ⟨F11, _, xs8, acc8, ?_, q711, ra8.mono q811, hb11⟩
                  rw [← ww1]
                  exact k11.wipe vs1
                | true =>
                  refine iteT ?_
                  refine i3 _ _ _ _ ⟨F11, r11, k11, fun x r3 => onP (hold r3 x) fun qa qb => Rq (acc8.length < sizeLine) (strict (wipeR qb vs1) fun r4 => lcM vs1 g1 tt1 te RR (ds1.drop (j + 1)) (acc8 ++ [qa]) r4), hb11, fun y r12 v12 F12 H12 hx12 k12 q12 t12 => ?_⟩
                  obtain ⟨d', r13, eh, hx13⟩ := onP.ex hx12
                  have hz := Rq.c hx13
                  have hl13 := (Rq.a hx13).ex
                  obtain ⟨F13, k13, q13, rp13⟩ := t12.hold k12 eh
                  obtain ⟨_, gg1, _, _⟩ := k13.unkeep fr.2.1 hF0
                  have q813 : Sub F8 F13 := (q811.trans q12).trans q13
                  refine ⟨xs8, gg1, by rw [ra8.length]; exact hz, F13, _, xs8 ++ [v12], acc8 ++ [d'], ?_, (q711.trans q12).trans q13, (ra8.mono q813).append (.cons rp13 .nil), hl13⟩
                  rw [← ww1]
                  exact (k13.rekeep fr.2.1 hF0).wipe vs1
            · have e0 : j = ds1.length := by omega
              subst e0
              rw [List.drop_length] at hl8
              refine .inl ⟨ok1.stop _ H8 (q8.trans k8.sub) (Nat.le_refl _), F8, wipeR r8 vs, xs8, acc8, ?_, q17.trans q8, ra8, ?_⟩
              · have := k8.wipe vs
                rw [wipe_sub hsub, ww] at this
                exact this
              · have h9 : RR acc8 r8 := hl8
                rw [← hRR] at h9
                exact strict.ex h9
    · have e0 : i = ds.length := by omega
      subst e0
      rw [List.drop_length] at hl2
      have hl2' : PP acc r2 := hl2
      rw [← hPP] at hl2'
      obtain ⟨k3, g1, g2, g3⟩ := k2.unkeep fr.2.1 hF0
      have kb := k1.back nb k3 q2
      refine .inl ⟨ok.stop _ H2 (q2.trans k2.sub) (Nat.le_refl _), hP _ _ _ F2 H2 (strict.ex hl2') kb (q1.trans q2) (.own g1 (.L ra) g2 fr.2.1 fr.2.2 (nb_back (k2.len.trans (wipe_length s vs)) nb g3))⟩
theorem de_lc2 (hc : X.calm = true) (hN : X.N.Nodup) (hi : DI X tg iter mi) (ok : BlkOk X.N X.env.scope scope own) (hv : ∀ i ∈ vs1, i ∈ own.map (·.2))
    (hg : ∀ (s : Shared) (H : Hp) (C : Addr) (cl : List (Str × Addr)) (fp : List Addr), DG (X.blk s H scope (compEnvC scope cl C X.env) fp) tg (own.map (·.2)) g) (ht : ∀ (s : Shared) (H : Hp) (C : Addr) (cl : List (Str × Addr)) (fp : List Addr), DTs (X.blk s H scope (compEnvC scope cl C X.env) fp) ifs tt)
    (hi1 : ∀ (s : Shared) (H : Hp) (C : Addr) (cl : List (Str × Addr)) (fp : List Addr), DI (X.blk s H scope (compEnvC scope cl C X.env) fp) tg1 iter1 mi1)
    (hg1 : ∀ (s : Shared) (H : Hp) (C : Addr) (cl : List (Str × Addr)) (fp : List Addr), DG (X.blk s H scope (compEnvC scope cl C X.env) fp) tg1 vs1 g1) (ht1 : ∀ (s : Shared) (H : Hp) (C : Addr) (cl : List (Str × Addr)) (fp : List Addr), DTs (X.blk s H scope (compEnvC scope cl C X.env) fp) ifs1 tt1)
    (he : ∀ (s : Shared) (H : Hp) (C : Addr) (cl : List (Str × Addr)) (fp : List Addr), DE (X.blk s H scope (compEnvC scope cl C X.env) fp) elt te) (hs : ∀ x, foldedSetIterable iter X.env x = pure x := by intro _; rfl) (hs1 : ∀ env x, foldedSetIterable iter1 env x = pure x := by intro _ _; rfl) :
    DE X (.ListComp elt [⟨tg, iter, ifs, 0⟩, ⟨tg1, iter1, ifs1, 0⟩] scope pos) (mLc2 (own.map (·.2)) vs1 mi g tt mi1 g1 tt1 te) := fun e => by
  refine PE.imp (pe_lc2 (vs1 := vs1) (g := fun v s H Q => ∃ e', TGt X.K e' (own.map (·.2)) g v s H Q) (tt := fun s H Q => ∃ e', TB X.K e' tt s H Q) (wi1 := fun s H Q => ∃ e', TIt X.K e' mi1 s H Q) (g1 := fun v s H Q => ∃ e', TGt X.K e' vs1 g1 v s H Q) (tt1 := fun s H Q => ∃ e', TB X.K e' tt1 s H Q) (te := fun s H Q => ∃ e', Tt X.K e' (mTmp te) s H Q) hc hN (hi e) ok hv
    (fun s H C cl fp => ⟨fun pins s σ H v u Q I r ⟨e', q⟩ => (hg _ _ C cl fp e').run pins s σ H v u Q I r q⟩) (fun s H C cl fp => ⟨fun pins s σ H Q I ⟨e', q⟩ => (ht _ _ C cl fp e').run pins s σ H Q I q⟩)
    (fun s H C cl fp => ⟨fun pins s σ H R I ⟨e', q⟩ => (hi1 _ _ C cl fp e').run pins s σ H R I q⟩)
    (fun s H C cl fp => ⟨fun pins s σ H v u Q I r ⟨e', q⟩ => (hg1 _ _ C cl fp e').run pins s σ H v u Q I r q⟩) (fun s H C cl fp => ⟨fun pins s σ H Q I ⟨e', q⟩ => (ht1 _ _ C cl fp e').run pins s σ H Q I q⟩)
    (fun s H C cl fp => ⟨fun pins s σ H Q I ⟨e', q⟩ => ((he _ _ C cl fp).tmp e').run pins s σ H Q I q⟩) hs hs1) ?_
  exact fun s H Q h => lc2_read rfl hv h _ _ _ _ _ _ (fun e' _ _ _ _ q => ⟨e', q⟩) (fun e' _ _ _ q => ⟨e', q⟩) (fun e' _ _ _ q => ⟨e', q⟩) (fun e' _ _ _ _ q => ⟨e', q⟩) (fun e' _ _ _ q => ⟨e', q⟩) fun e' _ _ _ q => ⟨e', q⟩
end
end DL
namespace DL
open PySem L2 PyProof.Rows
end DL
namespace DL
open PySem L2 PyProof.Rows
def prOf : D → Option (Key × D)
  | .tuple [k, v] => match kOf k with
    | some q => some (q, v)
    | none => none
  | _ => none
def prsOf : List D → Option (List (Key × D))
  | [] => some []
  | d :: ds => match prOf d, prsOf ds with
    | some p, some ps => some (p :: ps)
    | _, _ => none
def dMerge (kvs : List (D × D)) (ps : List (Key × D)) : List (D × D) := ps.foldl (fun acc p => dPut acc p.1 p.2) kvs
theorem merge_ok {K : Fg} {F : Hp} : ∀ {more : List (Key × V)} {ps : List (Key × D)} {kvs : List (Key × V)} {ds : List (D × D)}, more.map (·.1) = ps.map (·.1) → RpA K F (more.map (·.2)) (ps.map (·.2)) → ds.map (·.1) = kvs.map (fun p => kD p.1) → RpA K F (kvs.map (·.2)) (ds.map (·.2)) →
    (dMerge ds ps).map (·.1) = (mergeK kvs more).map (fun p => kD p.1) ∧ RpA K F ((mergeK kvs more).map (·.2)) ((dMerge ds ps).map (·.2))
  | [], [], _, _, _, _, h1, h2 => ⟨h1, h2⟩
  | [], _ :: _, _, _, e, _, _, _ => by cases e
  | _ :: _, [], _, _, e, _, _, _ => by cases e
  | m :: more, p :: ps, kvs, ds, e, r, h1, h2 => by
    simp only [List.map_cons, List.cons.injEq] at e
    cases r with
    | cons r1 r2 =>
      obtain ⟨g1, g2⟩ := put_ok (k := p.1) h1 h2 r1
      have := merge_ok (K := K) (F := F) (more := more) (ps := ps) (kvs := putK kvs m.1 m.2) (ds := dPut ds p.1 p.2) e.2 r2 (by rw [e.1]; exact g1) (by rw [e.1]; exact g2)
      exact this
theorem prs_read {K : Fg} {F H : Hp} (hs : Sub F H) : ∀ {xs : List V} {ds : List D} {ps : List (Key × D)}, RpA K F xs ds → prsOf ds = some ps → ∃ (as : List Addr) (kvs : List (Key × V)), xs = as.map V.ref ∧ Paired (fun p kv => SqT K H p [kV kv.1, kv.2]) as kvs ∧ kvs.map (·.1) = ps.map (·.1) ∧ RpA K F (kvs.map (·.2)) (ps.map (·.2))
  | _, _, _, .nil, e => by cases e; exact ⟨[], [], rfl, .nil, rfl, .nil⟩
  | _, _, ps, .cons (d := d) (ds := ds) (v := v) h r, e => by
    simp only [prsOf] at e
    split at e
    · rename_i p ps' e1 e2
      cases e
      obtain ⟨as, kvs, q1, q2, q3, q4⟩ := prs_read hs r e2
      unfold prOf at e1
      split at e1
      · rename_i kd vd
        split at e1
        · rename_i kk ek
          cases e1
          cases h with
          | tup a b =>
            cases b with
            | cons b1 b2 =>
              cases b2 with
              | cons b2 b3 =>
                cases b3
                rename_i ad v1 v2
                have ev := (Lk.rp b1 : Lk K F F _ _).key ek
                subst ev
                exact ⟨ad :: as, (kk, v2) :: kvs, by rw [q1]; rfl, .cons (hs.sqT a.sqT) q2, by simp [q3], .cons b2 q4⟩
        · cases e1
      · cases e1
    · cases e
end DL
namespace DL
open PySem PySem.Spec L2 PyProof.Rows
end DL
namespace DL
open PySem L2 PyProof.Rows
end DL
namespace DL
open PySem L2 PySem.Spec PyProof.Rows
def ddpS (acc : List Key) (k : Key) : List Key := if acc.any (fun j => decide (j = k)) = true then acc else acc ++ [k]
def ddp (xs : List Key) : List Key := xs.foldl ddpS []
theorem ddp_snoc (xs : List Key) (k : Key) : ddp (xs ++ [k]) = ddpS (ddp xs) k := by unfold ddp; rw [List.foldl_append]; rfl
theorem ddpS_any (a : List Key) (v k : Key) : ((ddpS a v).any fun j => decide (j = k)) = ((a.any fun j => decide (j = k)) || decide (k = v)) := by
  unfold ddpS
  split
  · rename_i h
    by_cases e : k = v
    · subst e; rw [h]; simp
    · simp [e]
  · rw [List.any_append]
    by_cases e : k = v
    · subst e; simp
    · have e' : ¬ v = k := fun q => e q.symm
      simp [e, e']
theorem ddpS_len (a : List Key) (v : Key) : (ddpS a v).length = if (a.any fun j => decide (j = v)) = true then a.length else a.length + 1 := by
  unfold ddpS; split <;> simp
theorem ddp_le (xs : List Key) : (ddp xs).length ≤ xs.length := by
  have go : ∀ (ys acc : List Key), (ys.foldl ddpS acc).length ≤ acc.length + ys.length := by
    intro ys
    induction ys with
    | nil => intro acc; simp
    | cons y ys ih =>
      intro acc
      have h1 := ih (ddpS acc y)
      have h2 := ddpS_len acc y
      rw [List.foldl_cons, List.length_cons]
      split at h2 <;> omega
  simpa [ddp] using go xs []
theorem ddp_all {xs : List Key} (h : xs.Nodup) : ddp xs = xs := by
  have go : ∀ (ys acc : List Key), (acc ++ ys).Nodup → ys.foldl ddpS acc = acc ++ ys := by
    intro ys
    induction ys with
    | nil => intro acc _; simp
    | cons y ys ih =>
      intro acc hn
      have hy : y ∉ acc := fun q => (List.nodup_append.mp hn).2.2 y q y List.mem_cons_self rfl
      have : ddpS acc y = acc ++ [y] := by
        unfold ddpS
        rw [if_neg]
        rw [List.any_eq_true]
        rintro ⟨j, hj, e⟩
        have e := of_decide_eq_true e
        subst e
        exact hy hj
      rw [List.foldl_cons, this, ih _ (by simpa using hn)]
      simp
  simpa [ddp] using go xs [] (by simpa using h)
theorem ddp_full (xs : List Key) : (ddp xs).length = xs.length ↔ xs.Nodup := by
  constructor
  · intro h
    have go : ∀ (ys acc : List Key), (ys.foldl ddpS acc).length = acc.length + ys.length → acc.Nodup → (acc ++ ys).Nodup := by
      intro ys
      induction ys with
      | nil => intro acc _ h; simpa using h
      | cons y ys ih =>
        intro acc hl hn
        have up : ∀ (zs acc : List Key), (zs.foldl ddpS acc).length ≤ acc.length + zs.length := by
          intro zs
          induction zs with
          | nil => intro acc; simp
          | cons z zs ih =>
            intro acc
            have h1 := ih (ddpS acc z)
            have h2 := ddpS_len acc z
            rw [List.foldl_cons, List.length_cons]
            split at h2 <;> omega
        rw [List.foldl_cons, List.length_cons] at hl
        have h1 := up ys (ddpS acc y)
        have h2 := ddpS_len acc y
        by_cases hy : (acc.any fun j => decide (j = y)) = true
        · rw [if_pos hy] at h2; omega
        · rw [if_neg hy] at h2
          have e : ddpS acc y = acc ++ [y] := if_neg hy
          have hm : y ∉ acc := fun q => hy (List.any_eq_true.mpr ⟨y, q, by simp⟩)
          have := ih (acc ++ [y]) (by rw [← e, hl, h2]; omega) (by
            rw [List.nodup_append]
            exact ⟨hn, by simp, by intro a ha b hb q; rw [List.mem_singleton] at hb; subst q hb; exact hm ha⟩)
          simpa using this
    simpa using go xs [] (by simpa [ddp] using h) List.nodup_nil
  · intro h; rw [ddp_all h]
theorem setK_congr {prog : Program} {w : World} {h : Heap} {a : Addr} {S T : Key → Bool} {m n : Nat} (z : h.SetOf (mixKind prog w) a S m) (e : ∀ k, S k = T k) (q : m = n) : h.SetOf (mixKind prog w) a T n := by
  obtain rfl : S = T := funext e
  subst q
  exact z
section
variable {prog : Program} {w : World} {A : Around} {R : Result → Shared → Prop} {I : Addr} {fp wr : List Addr} {G : Array GenState → Array GenState → Prop} {n : Nat} {P : Nat → Value → Prop} {St : Nat → Shared → Prop}
theorem kloop (W : WalksS prog w A.in1 I fp wr G n P St) (Z : Addr) (zf : Z ∉ fp) (ks : List Key) (kz : ks.length = n) (kb : n + 1 < scanBound)
    (kv : ∀ i v, P i v → ∃ k, ks[i]? = some k ∧ (mixKind prog w).is k v = true ∧ v.scannable = true) :
    ∀ (left i : Nat) (s : Shared), n - i = left → i ≤ n → St i s →
      s.heap.SetOf (mixKind prog w) Z (fun j => (ddp (ks.take i)).any fun q => decide (q = j)) (ddp (ks.take i)).length →
      (∀ s', Moved (Z :: wr) G s s' → s'.heap.SetOf (mixKind prog w) Z (fun j => (ddp ks).any fun q => decide (q = j)) (ddp ks).length → R (.ok (.ret .none)) s') →
      codeAny (model prog w) A (.builtin "set.update.loop" ⟨[.ref Z, .ref I], []⟩) R s := by
  have zw : Z ∉ wr := fun q => zf (W.sub _ q)
  have up : ∀ b ∈ wr, b ∈ Z :: wr := fun b q => List.mem_cons_of_mem _ q
  intro left
  induction left with
  | zero =>
    intro i s e1 e2 st zs fin
    obtain rfl : i = n := by omega
    rw [List.take_of_length_le (Nat.le_of_eq kz)] at zs
    refine codeAny_builtin PyProof.Rows.F.entry_set_update_loop ?_
    rw [Around.under_plainId PyProof.Rows.F.plain_set_update_loop _]
    show wpAny _ A.in1 (pyNext (.ref I) >>= _) _ _ s
    refine wpAny_bind (W.done s _ _ st fun s' mv => ?_)
    show wpAny _ A.in1 (ret Value.none) _ _ s'
    refine wpAny_pure (fin s' (mv.mono up) ?_)
    obtain ⟨o, es, ep, t, ho, rest⟩ := zs
    exact ⟨o, es, ep, t, mv.heap Z _ zw ho, rest⟩
  | succ left ih =>
    intro i s e1 e2 st zs fin
    have il : i < n := by omega
    refine codeAny_builtin PyProof.Rows.F.entry_set_update_loop ?_
    rw [Around.under_plainId PyProof.Rows.F.plain_set_update_loop _]
    show wpAny _ A.in1 (pyNext (.ref I) >>= _) _ _ s
    refine wpAny_bind (W.item i s _ _ il st fun v s' pv st' mv => ?_)
    obtain ⟨k, ek, is, sc⟩ := kv i v pv
    have zs' : s'.heap.SetOf (mixKind prog w) Z (fun j => (ddp (ks.take i)).any fun q => decide (q = j)) (ddp (ks.take i)).length := by
      obtain ⟨o, es, ep, tb, ho, rest⟩ := zs
      exact ⟨o, es, ep, tb, mv.heap Z _ zw ho, rest⟩
    show wpAny _ A.in1 (holding [v] (setAdd Z v) >>= _) _ _ s'
    refine wpAny_bind (wpAny_holding ?_)
    unfold setAdd
    refine wpAny_holding ?_
    refine wpAny_bind ((mixKind prog w).pyHash (k := k) is ?_)
    have rm : (ddp (ks.take i)).length + 1 < scanBound := by
      have := ddp_le (ks.take i)
      rw [List.length_take] at this
      omega
    refine wpAny_setAddHashed_of (knd := mixKind prog w) (s := { s' with toks := s'.toks + 1 }) is sc zs' rm fun h' sb z2 => ?_
    have et : ks.take (i + 1) = ks.take i ++ [k] := by rw [List.take_add_one, ek]; rfl
    have zi : h'.SetOf (mixKind prog w) Z (fun j => (ddp (ks.take (i + 1))).any fun q => decide (q = j)) (ddp (ks.take (i + 1))).length :=
      setK_congr z2 (fun j => by rw [et, ddp_snoc, ddpS_any]) (by rw [et, ddp_snoc, ddpS_len])
    refine wpAny_pure ⟨plainId_quiet PyProof.Rows.F.plain_set_update_loop _, ih (i + 1) _ (by omega) il (W.frame _ s' _ _ st' (Nat.le_succ _) fun b q o e => ?_) zi fun s'' mv' z3 => ?_⟩
    · rw [sb.2 b (fun y : b = Z => zf (by rw [← y]; exact q))]; exact e
    · refine fin s'' (Moved.trans W.gtrans ((mv.mono up).then_heap (Nat.le_succ _) fun b o q e => ?_) mv') z3
      rw [sb.2 b (fun y : b = Z => q (by rw [y]; exact List.mem_cons_self))]; exact e
end
section
variable {prog : Program} {w : World} {A : Around} {E : Value → Shared → Prop} {s : Shared}
abbrev frZ (led : Bool) : Obj := { cls := .type "set", dict := none, data := .set #[] 0 (.fresh 0 0 led) }
theorem set_of_keys {l : Addr} {items : Array Value} {ks : List Key} {Q : Value → Shared → Prop} (nh : A.handled = none) (hl : s.heap.IsList l items)
    (kv : ∀ (i : Nat) v, items[i]? = some v → ∃ k, ks[i]? = some k ∧ (mixKind prog w).is k v = true ∧ v.scannable = true) (kz : ks.length = items.size) (kb : items.size + 1 < scanBound)
    (h : ∀ (h' : Heap) (tk : Nat), h'.SetOf (mixKind prog w) s.heap.objs.size (fun j => (ddp ks).any fun q => decide (q = j)) (ddp ks).length →
      (∀ b o, b < s.heap.objs.size → s.heap.get? b = some o → h'.get? b = some o) → Q (.ref s.heap.objs.size) { s with heap := h', toks := tk }) :
    wpAny (model prog w) A (call (.type "set") [.ref l]) Q E s := by
  obtain ⟨c, tl, mro⟩ := PySem.F.called_set.mro
  have made := PySem.F.called_set.made
  have sub := PySem.F.called_set.sub
  refine wpAny_call (codeAny_of_tree ?_)
  show wpAny _ _ (callAny (.type "set") _) _ _ _
  refine wpAny_pure ⟨Code.quiet_builtin _ (by decide +kernel), codeAny_builtin PySem.F.entry_type_call ?_⟩
  rw [Around.under_plain (weight_type_call_type "set" [.ref l] []) rfl]
  have f1 := PySem.F.called_set.notType
  have f2 := PySem.F.called_set.canCreate
  have f3 := PySem.F.typeCall_set_1 (.ref l)
  repeat (any_goals (first | assumption | wp_step))
  refine codeAny_mono (code_set_new_1 (.ref l) (E := E) (Q₁ := fun z t => ∃ led : Bool, z = .ref s.heap.objs.size ∧ t = { s with heap := s.heap.push (frZ led) }) fun led => ⟨led, rfl, rfl⟩) fun r t hr => ?_
  cases r with
  | error e => exact hr
  | ok fl =>
    cases fl with
    | ret z =>
      obtain ⟨led, rfl, rfl⟩ := hr
      have gz : (s.heap.push (frZ led)).get? s.heap.objs.size = some (frZ led) := Heap.get?_push_size _ rfl
      have tz : Shared.TypeIs { s with heap := s.heap.push (frZ led) } (.ref s.heap.objs.size) "set" := ⟨_, gz, rfl⟩
      have f4 := PySem.F.called_set.init.lookup
      have f5 := PySem.F.called_set.init.bind (.ref s.heap.objs.size)
      repeat (any_goals (first | assumption | wp_step))
      refine codeAny_mono (codeAny_call_builtin (R := wants (fun r t => r = .none ∧ ∃ h' tk, t = { s with heap := h', toks := tk } ∧
          h'.SetOf (mixKind prog w) s.heap.objs.size (fun j => (ddp ks).any fun q => decide (q = j)) (ddp ks).length ∧
          (∀ b o, b < s.heap.objs.size → s.heap.get? b = some o → h'.get? b = some o)) E) PySem.F.called_set.init.plain PySem.F.entry_set_init (check_set_init_1 tz ?_)) fun r2 t2 hr2 => ?_
      · obtain ⟨ol, hol, hcl, nl, hdl⟩ := hl
        obtain ⟨ocls, odict, odata, oslots⟩ := ol
        simp only at hcl hdl
        subst hcl; subst hdl
        have ol' : (s.heap.push (frZ led)).get? l = some { cls := .type "list", dict := odict, data := .seq items nl, slots := oslots } := Heap.get?_push_of_some _ hol
        have f6 := PySem.F.sub_list_set
        have f7 := PySem.F.sub_list_frozenset
        have f8 : (Value.type "list" == Value.type "dict") = false := by decide
        have l1 : (s.heap.push (frZ led)).IsList l items := ⟨_, ol', rfl, nl, rfl⟩
        unfold Builtin.«set.__init__» noKeywords Builtin.Frozenset.updateFrom
        generalize hPI : pyIter = PI
        wp_walk
        subst hPI
        refine wpAny_pyIter_list l1 ?_
        refine wpAny_bind (wpAny_runValue ?_)
        have ll : l < s.heap.objs.size := Heap.lt_size hol
        have nh3 : A.in1.in1.in1.handled = none := by simp [nh]
        have ne1 : l ≠ (s.heap.push (frZ led)).objs.size := by
          rw [Heap.size_push]; exact Nat.ne_of_lt (Nat.lt_succ_of_lt ll)
        have nz : s.heap.objs.size ∉ [(s.heap.push (frZ led)).objs.size, l] := by
          rw [Heap.size_push]; simp only [List.mem_cons, List.mem_singleton, List.not_mem_nil, or_false, not_or]
          exact ⟨Nat.ne_of_lt (Nat.lt_succ_self _), Nat.ne_of_gt ll⟩
        refine kloop ((Walks.list nh3 _ l ne1 items).toS) s.heap.objs.size nz ks kz kb kv (items.size - 0) 0 _ (by omega) (Nat.zero_le _) ⟨⟨_, Heap.get?_push_size _ rfl, rfl, rfl⟩, (l1.push _)⟩ ?_ ?_
        · have gg : ((s.heap.push (frZ led)).push { cls := .type "list_iterator", data := .fields #[.ref l, .int 0 0] }).get? s.heap.objs.size = some (frZ led) := Heap.get?_push_of_some _ gz
          exact ⟨_, #[], 0, _, gg, ⟨rfl, rfl, rfl⟩, rfl, (fun e q => by simp at q), (fun k => by simp [ddp]), (by decide), (by rfl), rfl⟩
        · intro t3 mv z3
          obtain ⟨h', g', d', tk', os'⟩ := t3
          have eg : g' = s.gens := mv.gens
          have ed : d' = s.drawn := mv.drawn
          have eo : os' = s.os := mv.os
          subst eg; subst ed; subst eo
          show wpAny _ _ _ _ _ _
          refine wpAny_pure ?_
          show wpAny _ _ (ret Value.none) _ _ _
          refine wpAny_pure ⟨rfl, h', tk', rfl, z3, fun b o lb e => ?_⟩
          have n1 : b ≠ s.heap.objs.size := Nat.ne_of_lt lb
          have n2 : b ≠ (s.heap.push (frZ led)).objs.size := by
            rw [Heap.size_push]; exact Nat.ne_of_lt (Nat.lt_succ_of_lt lb)
          exact mv.heap b o (by simp only [List.mem_cons, List.mem_singleton, List.not_mem_nil, or_false, not_or]; exact ⟨n1, n2⟩) (Heap.get?_push_of_some _ (Heap.get?_push_of_some _ e))
      · cases r2 with
        | error e => exact hr2
        | ok fl2 =>
          cases fl2 with
          | ret r =>
            obtain ⟨rfl, h', tk, rfl, z3, k3⟩ := hr2
            repeat (any_goals (first | assumption | wp_step))
            exact h _ _ z3 k3
          | _ => exact hr2.elim
    | _ => exact hr.elim
end
end DL
namespace DL
open PySem L2 PyProof.Rows PpSet
section
variable {X : Cx}
abbrev kset (X : Cx) (D : Addr) (ks : List Key) : HO := SetK X.prog X.w D (fun j => (ddp ks).any fun q => decide (q = j)) (ddp ks).length
def tLenZ (X : Cx) (ta : TE) : TE := fun σ H Q => ta σ H fun x H1 => ∃ D S n, x = .ref D ∧ H1 D = some (SetK X.prog X.w D S n) ∧ n < 4096 ∧ Q (.int (n : Nat)) H1
theorem pe_lenZ {a : Expr} {ta : TE} {p pos : Pos} (hg : Gl X "len") (hm : X.mg "len" = none) (ha : PE X a ta) (na : starEach [a] X.env = (false, eval a X.env) :: starEach [] X.env := by rfl) : PE X (.Call (.Name "len" p) [a] [] pos) (tLenZ X ta) := by
  refine ⟨fun pins s σ H Q I h => Call_ (ld_blt I hg hm boot_len ?_)⟩
  refine PyProof.Rows.callWith_builtin1 (PyProof.Rows.args_cons (thn (ha.run pins s σ H _ I h) fun v s1 ⟨x, H1, I1, r1, q1⟩ => PyProof.Rows.args_nil ?_) na) na rfl
  obtain ⟨D, S, n, rfl, hD, hn4, q2⟩ := q1
  cases r1
  obtain ⟨o, es, ep, t, ho, hex, hd, _, _, _, hf, hn⟩ := setK_get I1 hD
  exact call_len_set ho hex hd hf (by rw [hn] <;> omega) ⟨.int (n : Nat), H1, I1.tok _, ⟨_, by rw [hn]⟩, q2⟩
def tSetZ (X : Cx) (ta : TE) : TE := fun σ H Q => ta σ H fun x H1 => ∃ (l : Addr) (ks : List Key), x = .ref l ∧ SqL X.K H1 l (ks.map kV) ∧ ks.length ≤ 4000 ∧ ∀ D, H1 D = none → Q (.ref D) (upd H1 D (kset X D ks))
theorem vals_at : ∀ {vs : List V} {us : List Value}, Vals vs us → ∀ (i : Nat) (u : Value), us[i]? = some u → ∃ v, vs[i]? = some v ∧ RelV v u
  | _, _, .nil, i, u, h => by simp at h
  | _, _, .cons r t, 0, u, h => by simp at h; subst h; exact ⟨_, rfl, r⟩
  | _, _, .cons r t, i + 1, u, h => by
    obtain ⟨v, e, q⟩ := vals_at t i u (by simpa using h)
    exact ⟨v, by simpa using e, q⟩
theorem pe_setZ {a : Expr} {ta : TE} {p pos : Pos} (hc : X.calm = true) (hg : Gl X "set") (hm : X.mg "set" = none) (ha : PE X a ta) (na : starEach [a] X.env = (false, eval a X.env) :: starEach [] X.env := by rfl) : PE X (.Call (.Name "set" p) [a] [] pos) (tSetZ X ta) := by
  refine ⟨fun pins s σ H Q I h => Call_ (ld_blt I hg hm boot_set ?_)⟩
  refine PyProof.Rows.callWith_type1 (PyProof.Rows.args_cons (thn (ha.run pins s σ H _ I h) fun v s1 ⟨x, H1, I1, r1, q1⟩ => PyProof.Rows.args_nil ?_) na) na rfl
  obtain ⟨l, ks, rfl, hq, hl, q2⟩ := q1
  cases r1
  obtain ⟨its, r, pl, hz⟩ := I1.list hq
  have hlen : ks.length = its.toArray.size := by rw [List.size_toArray, ← r.length, List.length_map]
  refine set_of_keys (ks := ks) (I1.ok.hd hc) pl.isList (fun i u hu => ?_) hlen (by rw [← hlen]; unfold scanBound; omega) fun h' tk z kp => ?_
  · obtain ⟨v, e, rv⟩ := vals_at r i u (by simpa using hu)
    rw [List.getElem?_map] at e
    cases ek : ks[i]? with
    | none => rw [ek] at e; cases e
    | some k => rw [ek] at e; cases e; exact ⟨k, rfl, kV_is rv, key_scan rv⟩
  · exact ⟨.ref _, _, I1.laid (t' := tk) (fun b o e => kp b o (Heap.lt_size e) e) (Nat.le_refl _) (setK_new z), rfl, q2 _ (I1.hok.fresh (Nat.le_refl _))⟩
def tScZ (X : Cx) (wi : TI) (g : TG) (tt : TT) (te : TE) (vs : List Nat) : TE := fun σ H Q => wi σ H fun J H1 => ∀ D, H1 D = none → ∃ W : Nat → Nat → Hp → Prop, (∃ m, W 0 m (upd H1 D (kset X D []))) ∧ ∀ i m H, W i m H →
  (J.stop i H ∧ Q (.ref D) H) ∨ (J.go i H ∧ ∃ Nx : Hp → Prop, (∀ H', Nx H' → ∃ m', m' < m ∧ W (i + 1) m' H') ∧ ∀ x H', J.yld i H x H' → g x (wipe σ vs) H' fun σ2 H2 => wipe σ2 vs = wipe σ vs ∧ tt σ2 H2 fun b H3 =>
    if b = true then te σ2 H3 fun y H4 => ∃ (c : Key) (ks : List Key), y = kV c ∧ H4 D = some (kset X D ks) ∧ (ddp ks).length + 1 < scanBound ∧ Nx (upd H4 D (kset X D (ks ++ [c]))) else Nx H3)
theorem addZ {pins : List (Addr × Obj)} {σ : L2.St} {H : Hp} {s : Shared} {E : Value → Shared → Prop} {D : Addr} {ks : List Key} {c : Key} {u : Value} {Q : Value → Shared → Prop} (I : Inv X pins σ H s) (hD : H D = some (kset X D ks)) (room : (ddp ks).length + 1 < scanBound) (rc : RelV (kV c) u)
    (h : ∀ s', Inv X pins σ (upd H D (kset X D (ks ++ [c]))) s' → Q .none s') : wpAny (model X.prog X.w) X.A (call (.builtin "set.add") [.ref D, u]) Q E s := by
  refine call_set_add (kV_is rc) (key_scan rc) (setK_get I hD) room fun h' sb new => ?_
  have new' : h'.SetOf (mixKind X.prog X.w) D (fun j => (ddp (ks ++ [c])).any fun q => decide (q = j)) (ddp (ks ++ [c])).length :=
    setK_congr new (fun j => by rw [ddp_snoc, ddpS_any]) (by rw [ddp_snoc, ddpS_len])
  have he : ∃ u, h'.get? D = some u := by
    have ⟨o, _, _, _, ho, _⟩ := new
    exact ⟨o, ho⟩
  exact h _ (I.write (e := D) (t' := s.toks + 1) (by rw [hD]; trivial) (.inl rfl) (fun b u hb hu => (sb.2 b hb).trans hu) he (setK_new new'))
theorem freshZ {h : Heap} {w : World} {P : Program} : (h.push (frZ (!w.params.followText "set-order"))).SetOf (mixKind P w) h.objs.size (fun j => (ddp []).any fun q => decide (q = j)) (ddp []).length :=
  ⟨_, #[], 0, _, Heap.get?_push_size _ rfl, ⟨rfl, rfl, rfl⟩, rfl, (fun e he => by simp at he), (fun k => by simp [ddp]), (by decide), (by rfl), rfl⟩
theorem scZ_core {pins : List (Addr × Obj)} {s : Shared} {σ : L2.St} {H : Hp} {Q : VK} {elt tg iter : Expr} {ifs : List Expr} {scope : Scope} {own : List (Str × Nat)} {pos pos' : Pos} {wi : TI} {g : TG} {tt : TT} {te : TE} {use : Option (Value → Sem Unit)} {Qf : Value → Shared → Prop}
    (hc : X.calm = true) (hN : X.N.Nodup) (I : Inv X pins σ H s) (hi : PI X tg iter wi) (ok : BlkOk X.N X.env.scope scope own)
    (hg : ∀ (s : Shared) (H : Hp) (C : Addr) (cl : List (Str × Addr)) (fp : List Addr), PG (X.blk s H scope (compEnvC scope cl C X.env) fp) tg g) (ht : ∀ (s : Shared) (H : Hp) (C : Addr) (cl : List (Str × Addr)) (fp : List Addr), PTs (X.blk s H scope (compEnvC scope cl C X.env) fp) ifs tt)
    (he : ∀ (s : Shared) (H : Hp) (C : Addr) (cl : List (Str × Addr)) (fp : List Addr), PE (X.blk s H scope (compEnvC scope cl C X.env) fp) elt te) (hs : ∀ x, foldedSetIterable iter X.env x = pure x)
    (h : tScZ X wi g tt te (own.map (·.2)) σ H Q)
    (hRR : ∀ D C s' m H', Inv X pins σ H' s' → Q (.ref D) H' → s'.heap.Ns C m → FpOk X pins H' C → compPost (model X.prog X.w) X.A X.xe use Qf (.ref D) C (.ok .next) s') :
    wpAny (model X.prog X.w) X.A (comprehension (.SetComp elt [⟨tg, iter, ifs, 0⟩] scope pos) scope X.env pos' (newSet (.type "set")) false (eval iter X.env) use) Qf X.xe s := by
  have fr0 : ∀ y ∈ scope.names, y.2 = .free → ∃ c, X.env.cells.lookup y.1 = some c := fun y hy e => by
    rcases ok.free y hy e with k | k
    · exact I.ok.has _ (.inl k)
    · exact I.ok.has _ (.inr k)
  refine wpAny_comprehension_free (use := use) rfl hs (closure_ok fr0) ok.kind (fun y hy e => by rw [ok.uniq y hy, e])
    (thn (hi.run pins s σ H _ I h) fun xv s1 hx => thn hx fun itv s2 h2 => ?_)
  obtain ⟨it, fp, tn, J, H2, e, I2, T, st2, f2, q⟩ := h2
  subst e
  refine newSet_ok (newEnv_comp ?_)
  generalize hD : s2.heap.objs.size = D
  have nD : H2 D = none := I2.hok.fresh (Nat.le_of_eq hD)
  obtain ⟨W, ⟨m0, w0⟩, turn⟩ := q D nD
  generalize hs3 : ({ s2 with heap := s2.heap.push (frZ (!X.w.params.followText "set-order")) } : Shared) = s3
  have I3 : Inv X pins σ (upd H2 D (kset X D [])) s3 := by
    rw [← hs3]
    refine I2.laid (t' := s2.toks) (fun b o e => Heap.get?_push_of_some _ e) (Nat.le_of_eq hD) ?_
    rw [← hD]
    exact setK_new freshZ
  have h3 : s3.heap = s2.heap.push (frZ (!X.w.params.followText "set-order")) := by rw [← hs3]
  have sz : ∀ b ∈ fp, b < s2.heap.objs.size := fun b hb => by
    obtain ⟨o, e, _⟩ := T.obj _ _ st2 b hb
    exact Heap.lt_size e
  have f3 : ∀ b ∈ fp, FpOk X pins (upd H2 D (kset X D [])) b ∧ b < s3.heap.objs.size := fun b hb => by
    have lb := sz b hb
    refine ⟨⟨?_, (f2 b hb).2⟩, by rw [h3, Heap.size_push]; exact Nat.lt_succ_of_lt lb⟩
    rw [upd_ne (by rw [← hD]; exact Nat.ne_of_lt lb)]
    exact (f2 b hb).1
  have st3 : tn 0 s3.heap := T.keep _ _ _ st2 fun b _ o e => by rw [h3]; exact Heap.get?_push_of_some _ e
  have I4 := block_start I3 ok hN f3
  have pg := hg s3 (upd H2 D (kset X D [])) s3.heap.objs.size (cellsFrom (s3.heap.objs.size + 1) scope.names (cloFrom X.env.cells scope.names [])) fp
  have pt := ht s3 (upd H2 D (kset X D [])) s3.heap.objs.size (cellsFrom (s3.heap.objs.size + 1) scope.names (cloFrom X.env.cells scope.names [])) fp
  have pe := he s3 (upd H2 D (kset X D [])) s3.heap.objs.size (cellsFrom (s3.heap.objs.size + 1) scope.names (cloFrom X.env.cells scope.names [])) fp
  show codeAny _ _ (.compStart (.SetComp elt [⟨tg, iter, ifs, 0⟩] scope pos) 0 (.ref it) (.ref D) (compEnvC scope (cellsFrom (s3.heap.objs.size + 1) scope.names (cloFrom X.env.cells scope.names [])) s3.heap.objs.size X.env)) (compPost (model X.prog X.w) X.A X.xe use Qf (.ref D) s3.heap.objs.size) { s3 with heap := pushCells (s3.heap.push { cls := .type "dict", data := .dict #[] }) scope.names }
  have nfp : ∀ b ∈ fp, (upd H2 D (kset X D [])) b = none := fun b hb => (f3 b hb).1.1
  generalize hce : compEnvC scope (cellsFrom (s3.heap.objs.size + 1) scope.names (cloFrom X.env.cells scope.names [])) s3.heap.objs.size X.env = ce at I4 pg pt pe ⊢
  have cL : ce.locals = s3.heap.objs.size := by subst hce; rfl
  generalize hH3 : upd H2 D (kset X D []) = H3 at I3 I4 pg pt pe w0 nfp f3
  generalize hs4 : ({ s3 with heap := pushCells (s3.heap.push { cls := .type "dict", data := .dict #[] }) scope.names } : Shared) = s4 at I4 ⊢
  have st4 : tn 0 s4.heap := T.keep _ _ _ st3 fun b _ o e => by rw [← hs4]; exact pushCells_keeps _ _ _ _ (Heap.get?_push_of_some _ e)
  have stat : ∀ {σ' : L2.St} {H' : Hp} {s' : Shared}, Inv (X.blk s3 H3 scope ce fp) [] σ' H' s' → (∀ b ∈ fp, H' b = none) → ∀ b ∈ fp, FpOk (X.blk s3 H3 scope ce fp) [] H' b := fun {σ' H' s'} J' hn b hb =>
    ⟨hn b hb, (J'.ok.exf b hb).1, J'.ok.exfs b hb, .inl hb, fun x c e => (J'.ok.exf b hb).2 x c e, fun p hp => absurd (show p ∈ ([] : List (Addr × Obj)) ++ [] from hp) (by simp)⟩
  have loop : codeAny (model X.prog X.w) X.A (.compLoop (.SetComp elt [⟨tg, iter, ifs, 0⟩] scope pos) 0 (.ref it) (.ref D) ce) (compPost (model X.prog X.w) X.A X.xe use Qf (.ref D) s3.heap.objs.size) s4 := by
    refine compLoopS_any (fun n s' => ∃ i H', Inv (X.blk s3 H3 scope ce fp) [] (wipe σ (own.map (·.2))) H' s' ∧ tn i s'.heap ∧ (∀ b ∈ fp, H' b = none) ∧ W i n H') ?_ m0 ⟨0, H3, I4, st4, nfp, w0⟩
    rintro n s5 ⟨i, H5, I5, st5, n5, w5⟩
    rcases turn i n H5 w5 with ⟨stop, qq⟩ | ⟨go, Nx, hNx, step⟩
    · have td := T.done (X.blk s3 H3 scope ce fp) rfl rfl rfl hc i [] s5 _ H5 (fun _ _ => False) I5 (stat I5 n5) st5 stop
      refine thnF td fun r s6 ⟨hr, I6⟩ => ?_
      subst hr
      have I7 : Inv X pins σ H5 s6 := I3.call' (ch := fp) I6.os I6.base I6.hok I6.bare fun b hb => ⟨(f3 b hb).1.2.2.2.1, (f3 b hb).1.2.1, (f3 b hb).1.2.2.2.2.1, (f3 b hb).1.2.2.2.2.2⟩
      have nC : H5 s3.heap.objs.size = none := by
        have z : H5 ce.locals = none := I6.free
        rw [cL] at z
        exact z
      obtain ⟨m, hn, _⟩ := I6.loc
      have hn : s6.heap.Ns ce.locals m := hn
      rw [cL] at hn
      exact hRR D s3.heap.objs.size s6 m H5 I7 qq hn (I3.fpOk (Nat.le_refl _) nC)
    · have ti := T.item (X.blk s3 H3 scope ce fp) rfl rfl rfl hc i [] s5 _ H5 (fun _ _ => False) I5 (stat I5 n5) st5 go
      refine thnF ti fun r s6 ⟨u, hr, h6⟩ => ?_
      subst hr
      refine thnF h6 fun _ s7 ⟨x, H7, I7, r7, y7, st7, n7⟩ => ?_
      have I7' := I7.pinned (stat I7 n7) (T.obj _ _ st7)
      refine thnF (pg.run _ s7 _ H7 x u _ I7' r7 (step x H7 y7)) fun _ s8 ⟨σ8, H8, I8, hw8, q8⟩ => ?_
      refine thnF (pt.run _ s8 σ8 H8 _ I8 q8) fun b s9 ⟨H9, I9, q9⟩ => ?_
      have fin : ∀ {s' : Shared} {H' : Hp}, Inv (X.blk s3 H3 scope ce fp) ([] ++ pinsAt fp s7.heap) σ8 H' s' → Nx H' → ∃ m, m < n ∧ ∃ i H', Inv (X.blk s3 H3 scope ce fp) [] (wipe σ (own.map (·.2))) H' s' ∧ tn i s'.heap ∧ (∀ b ∈ fp, H' b = none) ∧ W i m H' := fun {s' H'} J' nx => by
        obtain ⟨m', hm, w'⟩ := hNx H' nx
        have pin' : ∀ b ∈ fp, ∀ o, s7.heap.get? b = some o → s'.heap.get? b = some o ∧ H' b = none := fun b hb o e =>
          let z := J'.pin (b, o) (List.mem_append_right _ (List.mem_append_right _ (mem_pinsAt hb e)))
          ⟨z.1, z.2.1⟩
        have hl : (wipe σ (own.map (·.2))).length = σ8.length := by rw [← hw8, wipe_length]
        refine ⟨m', hm, i + 1, H', (J'.unpinned (pins := [])).weak hl (fun j v e => ?_), T.keep _ _ _ st7 fun b hb o e => (pin' b hb o e).1, fun b hb => ?_, w'⟩
        · rw [← hw8] at e
          exact (wipe_some e).1
        · obtain ⟨o, e, _⟩ := T.obj _ _ st7 b hb
          exact (pin' b hb o e).2
      cases b with
      | false =>
        simp only [Bool.false_eq_true, if_false] at q9 ⊢
        exact fin I9 q9
      | true =>
        simp only [if_true] at q9 ⊢
        refine thnF (pe.run _ s9 σ8 H9 _ I9 q9) fun z s10 ⟨yv, H10, I10, r10, cb, ks0, ey, hD10, hz10, nx⟩ => ?_
        subst ey
        exact addZ (X := X.blk s3 H3 scope ce fp) I10 hD10 hz10 r10 fun s11 I11 => fin I11 nx
  exact codeAny_compStart_set loop (T.self X.A 0 _ _ _ st4 loop)
theorem pe_scZ {elt tg iter : Expr} {ifs : List Expr} {scope : Scope} {own : List (Str × Nat)} {pos : Pos} {wi : TI} {g : TG} {tt : TT} {te : TE} (hc : X.calm = true) (hN : X.N.Nodup) (hi : PI X tg iter wi) (ok : BlkOk X.N X.env.scope scope own)
    (hg : ∀ (s : Shared) (H : Hp) (C : Addr) (cl : List (Str × Addr)) (fp : List Addr), PG (X.blk s H scope (compEnvC scope cl C X.env) fp) tg g) (ht : ∀ (s : Shared) (H : Hp) (C : Addr) (cl : List (Str × Addr)) (fp : List Addr), PTs (X.blk s H scope (compEnvC scope cl C X.env) fp) ifs tt)
    (he : ∀ (s : Shared) (H : Hp) (C : Addr) (cl : List (Str × Addr)) (fp : List Addr), PE (X.blk s H scope (compEnvC scope cl C X.env) fp) elt te) (hs : ∀ x, foldedSetIterable iter X.env x = pure x := by intro _; rfl) :
    PE X (.SetComp elt [⟨tg, iter, ifs, 0⟩] scope pos) (tScZ X wi g tt te (own.map (·.2))) := by
  refine ⟨fun pins s σ H Q I h => ?_⟩
  rw [eval_SetComp]
  refine scZ_core hc hN I hi ok hg ht he hs h fun D C s' m H' J' q hn f => ⟨m, hn, fun h'' sb => ?_⟩
  obtain ⟨f0, f1, f2, f3, f4, f5⟩ := f
  exact ⟨.ref D, H', J'.turned (t' := s'.toks) (fun b o hb e => (sb.2 b hb).trans e) f0 f1 f3 f4 f5, rfl, q⟩
end
end DL
namespace DL
open PySem L2 PyProof.Rows
def ksOf : List D → Option (List Key)
  | [] => some []
  | d :: ds => match kOf d, ksOf ds with
    | some k, some ks => some (k :: ks)
    | _, _ => none
theorem rp_key {K : Fg} {F : Hp} {v : V} {d : D} {k : Key} (h : Rp K F v d) (e : kOf d = some k) : v = kV k := by
  have := kOf_some e
  subst this
  cases k with
  | inl i => cases h; rfl
  | inr x => cases h; rfl
theorem rpA_ks {K : Fg} {F : Hp} : ∀ {vs : List V} {ds : List D} {ks : List Key}, RpA K F vs ds → ksOf ds = some ks → vs = ks.map kV
  | _, _, _, .nil, e => by cases e; rfl
  | _, _, ks, .cons (d := d) (ds := ds) h r, e => by
    rw [ksOf] at e
    cases e1 : kOf d with
    | none => rw [e1] at e; cases e
    | some k =>
      cases e2 : ksOf ds with
      | none => rw [e1, e2] at e; cases e
      | some q =>
        rw [e1, e2] at e
        cases e
        rw [List.map_cons, rp_key h e1, rpA_ks r e2]
def KLenSet (P : Po) (x : R) (r : Rho) : Prop := onO (look r x) fun d => onO (ltOf d) fun ds => onO (ksOf ds) fun ks => Rq (ks.length ≤ 4000) (P (.val (.int ((ddp ks).length : Nat))) r)
def mLenSet (ma : ME) : ME := fun r P => ma r fun x r1 => KLenSet P x.tmp r1
section
variable {X : Cx} {a : Expr} {ma : ME} {p p2 q pos : Pos}
theorem de_lenSet (hc : X.calm = true) (hg : Gl X "len") (hm : X.mg "len" = none) (hg2 : Gl X "set") (hm2 : X.mg "set" = none) (ha : DE X a ma) (na : starEach [a] X.env = (false, eval a X.env) :: starEach [] X.env := by rfl)
    (nb : starEach [.Call (.Name "set" p2) [a] [] q] X.env = (false, eval (.Call (.Name "set" p2) [a] [] q) X.env) :: starEach [] X.env := by rfl) : DE X (.Call (.Name "len" p) [.Call (.Name "set" p2) [a] [] q] [] pos) (mLenSet ma) := fun e => by
  refine PE.imp (pe_lenZ hg hm (pe_setZ hc hg2 hm2 (ha.tmp e) na) nb) fun s H Q ⟨F, r, k, P, hm, hP⟩ => ?_
  refine ⟨F, r, k, fun x r1 => KLenSet P x r1, hm, fun x r1 v F1 H1 hx k1 q1 t1 => ?_⟩
  obtain ⟨d, e1, h1⟩ := onO.ex hx
  obtain ⟨ds, e2, h2⟩ := onO.ex h1
  obtain ⟨ks, e3, h3⟩ := onO.ex h2
  have := ltOf_of e2
  subst this
  obtain ⟨l, xs, rfl, g1, g2⟩ := (t1.look k1 e1).lst k1.sub
  have ex := rpA_ks g2 e3
  subst ex
  refine ⟨l, ks, rfl, .inl g1, Rq.c h3, fun D hD => ?_⟩
  refine ⟨D, _, (ddp ks).length, rfl, upd_same, ?_, ?_⟩
  · have := ddp_le ks
    have := Rq.c h3
    omega
  · exact hP _ r1 _ F1 _ (Rq.a h3) (k1.alloc hD) q1 (.val (.int _))
end
def scM (vs : List Nat) (g : GT) (tt : MT) (te : ME) (P : List Key → Rho → Prop) : List D → List Key → Rho → Prop
  | [], acc, r => P acc r
  | d :: ds, acc, r => onS (g d r) fun r1 => tt r1 fun b r2 => brK b (te r2 fun y r3 => onO (look r3 y.tmp) fun dk => onO (kOf dk) fun k => Rq (acc.length < 4000) (strict (wipeR r3 vs) fun r5 => scM vs g tt te P ds (acc ++ [k]) r5)) (strict (wipeR r2 vs) fun r4 => scM vs g tt te P ds acc r4)
structure Sc (vs : List Nat) (g : GT) (tt : MT) (te : ME) (P : List Key → Rho → Prop) (ds : List D) (acc : List Key) (r : Rho) : Prop where
  h : scM vs g tt te P ds acc r
theorem sc_by {vs : List Nat} {g : GT} {tt : MT} {te : ME} {P : List Key → Rho → Prop} {ds : List D} {acc : List Key} {r : Rho} (I : List D → List Key → Rho → Prop) (hi : I ds acc r) (h : ∀ d ds acc r, I (d :: ds) acc r → (∀ acc' r', I ds acc' r' → scM vs g tt te P ds acc' r') → scM vs g tt te P (d :: ds) acc r) (h0 : ∀ acc r, I [] acc r → P acc r) : Sc vs g tt te P ds acc r := by
  have go : ∀ ds acc r, I ds acc r → scM vs g tt te P ds acc r := by
    intro ds
    induction ds with
    | nil => intro acc r q; exact h0 acc r q
    | cons d ds ih => intro acc r q; exact h d ds acc r q fun acc' r' q' => ih acc' r' q'
  exact ⟨go ds acc r hi⟩
theorem sc_list {vs : List Nat} {g : GT} {tt : MT} {te : ME} {P : List Key → Rho → Prop} {r : Rho} {α : Type} (f : α → D) (gv : α → Key) {as : List α}
    (h : ∀ a ∈ as, ∀ ds acc, acc.length < 4000 → scM vs g tt te P ds (acc ++ [gv a]) r → scM vs g tt te P (f a :: ds) acc r)
    (hz : as.length ≤ 4000) (hp : P (as.map gv) r) : Sc vs g tt te P (as.map f) [] r := by
  refine sc_by (fun ds acc ρ => ∃ dn rest : List α, as = dn ++ rest ∧ ds = rest.map f ∧ acc = dn.map gv ∧ ρ = r) ⟨[], as, rfl, rfl, rfl, rfl⟩ ?_ ?_
  · rintro d ds acc ρ ⟨dn, rest, k1, k2, rfl, rfl⟩ ih
    cases rest with
    | nil => cases k2
    | cons a rest =>
    simp only [List.map_cons, List.cons.injEq] at k2
    obtain ⟨rfl, rfl⟩ := k2
    refine h a (by rw [k1]; simp) _ _ (by rw [List.length_map]; rw [k1] at hz; simp at hz; omega) (ih _ _ ⟨dn ++ [a], rest, by rw [k1]; simp, rfl, by simp, rfl⟩)
  · rintro acc ρ ⟨dn, rest, k1, k2, rfl, rfl⟩
    have e0 : rest = [] := by simpa using k2.symm
    subst e0
    rw [List.append_nil] at k1
    subst k1
    exact hp
def mLenSc (vs : List Nat) (mi : MI) (g : GT) (tt : MT) (te : ME) : ME := fun r P => mi r fun ds r1 => rqB (noBox r1 vs) (strict (wipeR r1 vs) fun r0 => Sc vs g tt te (fun acc r2 => strict (backR r2 r1 vs) fun r3 => Rq (acc.length ≤ 4000) (P (.val (.int ((ddp acc).length : Nat))) r3)) ds [] r0)
section
variable {X : Cx} {elt tg iter : Expr} {ifs : List Expr} {scope : Scope} {own : List (Str × Nat)} {pos p cpos : Pos} {mi : MI} {g : GT} {tt : MT} {te : ME} {vs : List Nat}
theorem lenSc_read {e : En} (hvs : vs = own.map (·.2)) {s : L2.St} {H : Hp} {Q : VK} (h : T X.K e (mLenSc vs mi g tt te) s H Q) :
    ∀ (tg' : TG) (tt' : TT) (te' : TE), (∀ e', ∀ v s H Q, TGt X.K e' vs g v s H Q → tg' v s H Q) → (∀ e', ∀ s H Q, TB X.K e' tt s H Q → tt' s H Q) → (∀ e', ∀ s H Q, Tt X.K e' (mTmp te) s H Q → te' s H Q) → tLenZ X (tScZ X (TIt X.K e mi) tg' tt' te' (own.map (·.2))) s H Q := by
  intro tg' tt' te' i1 i2 i3
  rw [← hvs]
  obtain ⟨F, r, k, P, hm, hP⟩ := h
  refine ⟨F, r, k, _, hm, fun ds r1 F1 H1 J hx k1 q1 ok p hp => ?_⟩
  obtain ⟨nb, hx2⟩ := rqB.ex hx
  have hl := hx2.ex.h
  clear hx hx2
  have fr := k1.free hp
  have hF0 : e.F0 p = none := by
    cases q : e.F0 p with
    | none => rfl
    | some u => rw [k1.f0 p u q] at fr; cases fr.1
  generalize hPP : (fun (acc : List Key) (r2 : Rho) => strict (backR r2 r1 vs) fun r3 => Rq (acc.length ≤ 4000) (P (.val (.int ((ddp acc).length : Nat))) r3)) = PP at hl
  refine ⟨fun i m H => ∃ F r acc, Ok X.K (e.keep p (kset X p acc)) F r (wipe s vs) H ∧ Sub F1 F ∧ i ≤ ds.length ∧ m = ds.length - i ∧ scM vs g tt te PP (ds.drop i) acc r, ?_, ?_⟩
  · have kw : Ok X.K e F1 (wipeR r1 vs) (wipe s vs) (upd H1 p (kset X p [])) := (k1.wipe vs).alloc hp
    exact ⟨_, F1, _, [], kw.keep upd_same fr.1 ((k1.wipe vs).nobox hp), Sub.refl _, Nat.zero_le _, rfl, by rw [List.drop_zero]; exact hl⟩
  · rintro i m H2 ⟨F2, r2, acc, k2, q2, hi, rfl, hl2⟩
    by_cases hn : i < ds.length
    · refine .inr ⟨ok.go i H2 (q2.trans k2.sub) hn, fun H => ∃ F r acc, Ok X.K (e.keep p (kset X p acc)) F r (wipe s vs) H ∧ Sub F1 F ∧ scM vs g tt te PP (ds.drop (i + 1)) acc r, fun H3 ⟨F3, r3, acc3, k3, q3, hl3⟩ => ⟨_, by omega, F3, r3, acc3, k3, q3, hn, rfl, hl3⟩, fun x H3 hy => ?_⟩
      obtain ⟨d, ed, F3, k3, q3, rp⟩ := ok.yld i H2 x H3 hy _ F2 r2 _ k2 q2 hn
      rw [drop_cons ed] at hl2
      obtain ⟨r4, eg, hb4⟩ := onS.ex hl2
      refine i1 _ _ _ _ _ ⟨F3, r2, d, r4, k3, rp, eg, fun s5 F5 H5 k5 q5 w5 => ⟨w5.trans ?_, i2 _ _ _ _ ⟨F5, r4, k5, _, hb4, fun b r6 F6 H6 hb6 k6 q6 => ?_⟩⟩⟩
      · apply List.ext_getElem?
        intro j
        rw [wipe_get, wipe_get, wipe_length]
        split <;> rfl
      · have ww : wipe s5 vs = wipe s vs := w5.trans (by
          apply List.ext_getElem?
          intro j
          rw [wipe_get, wipe_get, wipe_length]
          split <;> rfl)
        have q16 : Sub F1 F6 := ((q2.trans q3).trans q5).trans q6
        cases b with
        | false =>
          have hb6 := strict.ex hb6
          refine iteF ?_
          refine ⟨F6, _, acc, ?_, q16, hb6⟩
          rw [← ww]
          exact k6.wipe vs
        | true =>
          refine iteT ?_
          refine i3 _ _ _ _ ⟨F6, r6, k6, fun y r3 => onO (look r3 y) fun dk => onO (kOf dk) fun k => Rq (acc.length < 4000) (strict (wipeR r3 vs) fun r5 => scM vs g tt te PP (ds.drop (i + 1)) (acc ++ [k]) r5), hb6, fun y r7 v7 F7 H7 hx7 k7 q7 t7 => ?_⟩
          obtain ⟨dk, e1, h1⟩ := onO.ex hx7
          obtain ⟨kk, e2, h2⟩ := onO.ex h1
          have hz := Rq.c h2
          have hl9 := (Rq.a h2).ex
          have lk := (t7.look k7 e1).key e2
          obtain ⟨_, g1, _, _⟩ := k7.unkeep fr.2.1 hF0
          have hle := ddp_le acc
          refine ⟨kk, acc, lk, g1, by unfold scanBound; omega, F7, _, _, ?_, q16.trans q7, hl9⟩
          rw [← ww]
          exact (k7.rekeep fr.2.1 hF0).wipe vs
    · have e0 : i = ds.length := by omega
      subst e0
      rw [List.drop_length] at hl2
      have hl2' : PP acc r2 := hl2
      rw [← hPP] at hl2'
      obtain ⟨k3, g1, g2, g3⟩ := k2.unkeep fr.2.1 hF0
      have kb := k1.back nb k3 q2
      have fin := strict.ex hl2'
      have hle := ddp_le acc
      have h4 := Rq.c fin
      exact .inl ⟨ok.stop _ H2 (q2.trans k2.sub) (Nat.le_refl _), p, _, (ddp acc).length, rfl, g1, by omega, hP _ _ _ F2 H2 (Rq.a fin) kb (q1.trans q2) (.val (.int _))⟩
theorem de_lenSc (hc : X.calm = true) (hg0 : Gl X "len") (hm0 : X.mg "len" = none) (hN : X.N.Nodup) (hi : DI X tg iter mi) (ok : BlkOk X.N X.env.scope scope own)
    (hg : ∀ (s : Shared) (H : Hp) (C : Addr) (cl : List (Str × Addr)) (fp : List Addr), DG (X.blk s H scope (compEnvC scope cl C X.env) fp) tg (own.map (·.2)) g) (ht : ∀ (s : Shared) (H : Hp) (C : Addr) (cl : List (Str × Addr)) (fp : List Addr), DTs (X.blk s H scope (compEnvC scope cl C X.env) fp) ifs tt)
    (he : ∀ (s : Shared) (H : Hp) (C : Addr) (cl : List (Str × Addr)) (fp : List Addr), DE (X.blk s H scope (compEnvC scope cl C X.env) fp) elt te) (hs : ∀ x, foldedSetIterable iter X.env x = pure x := by intro _; rfl)
    (na : starEach [.SetComp elt [⟨tg, iter, ifs, 0⟩] scope pos] X.env = (false, eval (.SetComp elt [⟨tg, iter, ifs, 0⟩] scope pos) X.env) :: starEach [] X.env := by rfl) :
    DE X (.Call (.Name "len" p) [.SetComp elt [⟨tg, iter, ifs, 0⟩] scope pos] [] cpos) (mLenSc (own.map (·.2)) mi g tt te) := fun e => by
  refine PE.imp (pe_lenZ hg0 hm0 (pe_scZ (g := fun v s H Q => ∃ e', TGt X.K e' (own.map (·.2)) g v s H Q) (tt := fun s H Q => ∃ e', TB X.K e' tt s H Q) (te := fun s H Q => ∃ e', Tt X.K e' (mTmp te) s H Q) hc hN (hi e) ok
    (fun s H C cl fp => ⟨fun pins s σ H v u Q I r ⟨e', q⟩ => (hg _ _ C cl fp e').run pins s σ H v u Q I r q⟩) (fun s H C cl fp => ⟨fun pins s σ H Q I ⟨e', q⟩ => (ht _ _ C cl fp e').run pins s σ H Q I q⟩) (fun s H C cl fp => ⟨fun pins s σ H Q I ⟨e', q⟩ => ((he _ _ C cl fp).tmp e').run pins s σ H Q I q⟩) hs) na) ?_
  exact fun s H Q h => lenSc_read rfl h _ _ _ (fun e' _ _ _ _ q => ⟨e', q⟩) (fun e' _ _ _ q => ⟨e', q⟩) fun e' _ _ _ q => ⟨e', q⟩
end
end DL
namespace DL
open PySem L2 PyProof.Rows
section
variable {prog : Program} {w : World} {A : Around} {E : Value → Shared → Prop} {s : Shared}
theorem adjust_rev (n : Nat) : Builtin.Slice.sliceAdjust none none (-1) (n : Int) = ((n : Int) - 1, -1) := by
  simp [Builtin.Slice.sliceAdjust]
theorem places_rev (n : Nat) : Builtin.Slice.slicePlaces ((n : Int) - 1) (-1) (-1) = n := by
  unfold Builtin.Slice.slicePlaces
  cases n with
  | zero => rfl
  | succ n => simp; try omega
theorem applied_rev {sl : Addr} {vs : Value} {n : Nat} {Q : Int × Int × Nat → Shared → Prop} (hs : s.heap.IsSliceOf sl .none .none vs) (ps : IsPart vs (some (-1)))
    (h : Q ((n : Int) - 1, -1, n) s) : wpAny (model prog w) A (Builtin.Slice.sliceApplied (.ref sl) (pure (n : Int))) Q E s := by
  obtain ⟨os, hos, hcs, hds⟩ := id hs
  unfold Builtin.Slice.sliceApplied Builtin.Slice.sliceFields
  refine wpAny_bind (wpAny_bind (wpAny_field hos hds (x := .none) rfl (wpAny_bind (wpAny_field hos hds (x := .none) rfl (wpAny_bind (wpAny_field hos hds (x := vs) rfl (wpAny_pure ?_)))))))
  refine wpAny_bind (HT.slicePart_ ps ?_)
  show wpAny _ _ (if ((-1 : Int) == 0) = true then _ else _) _ _ s
  rw [if_neg (by decide)]
  refine wpAny_bind (HT.slicePart_ .none (wpAny_bind (HT.slicePart_ .none (wpAny_bind (wpAny_pure ?_)))))
  show wpAny _ _ (match Builtin.Slice.sliceAdjust none none (-1) (n : Int) with | (lo, hi) => pure (lo, (-1 : Int), Builtin.Slice.slicePlaces lo hi (-1))) _ _ s
  rw [adjust_rev n]
  show wpAny _ _ (pure ((n : Int) - 1, (-1 : Int), Builtin.Slice.slicePlaces ((n : Int) - 1) (-1) (-1))) _ _ s
  rw [places_rev]
  exact wpAny_pure h
theorem pick_rev (items : Array Value) : ((List.range items.size).filterMap fun (k : Nat) => items[((items.size : Int) - 1 + (k : Int) * (-1)).toNat]?).toArray = items.toList.reverse.toArray := by
  have e : (List.range items.size).filterMap (fun (k : Nat) => items[((items.size : Int) - 1 + (k : Int) * (-1)).toNat]?) = ((List.range items.size).map fun k => items.size - 1 - k).filterMap (items[·]?) := by
    rw [List.filterMap_map]
    have go : ∀ l : List Nat, (∀ k ∈ l, k < items.size) → l.filterMap (fun (k : Nat) => items[((items.size : Int) - 1 + (k : Int) * (-1)).toNat]?) = l.filterMap ((items[·]?) ∘ fun k => items.size - 1 - k) := by
      intro l
      induction l with
      | nil => intro _; rfl
      | cons k l ih =>
        intro hl
        have hk := hl k List.mem_cons_self
        have e1 : ((items.size : Int) - 1 + (k : Int) * (-1)).toNat = items.size - 1 - k := by omega
        rw [List.filterMap_cons, List.filterMap_cons, ih fun j hj => hl j (List.mem_cons_of_mem _ hj), e1]
        rfl
    exact go _ fun k hk => List.mem_range.mp hk
  rw [e, PySem.W.krv_range, List.filterMap_reverse, PySem.W.krv_all]
theorem get_tup_rev {t sl : Addr} {items : Array Value} {vs : Value} {Q : Value → Shared → Prop} (ht : IsTup s.heap t items) (hs : s.heap.IsSliceOf sl .none .none vs) (ps : IsPart vs (some (-1)))
    (h : Q (.ref s.heap.objs.size) { s with heap := s.heap.push { cls := .type "tuple", data := .seq items.toList.reverse.toArray } })
    (hsz : items.size ≤ sizeLine) : wpAny (model prog w) A (getItem (.ref t) (.ref sl)) Q E s := by
  have fit : sizeOk (.seq items.toList.reverse.toArray) := by
    show items.toList.reverse.toArray.size ≤ sizeLine
    rw [List.size_toArray, List.length_reverse, Array.length_toList]
    exact hsz
  obtain ⟨os, hos, hcs, hds⟩ := id hs
  have ty : s.TypeIs (.ref sl) "slice" := ⟨os, hos, hcs⟩
  unfold getItem
  try with_reducible refine wpAny_holding ?_
  first | refine wpAny_bind (wpAny_pure ?_) | skip
  refine wpAny_bind (wpAny_sequenceKey ht.typeIs (by decide) ?_)
  refine wpAny_bind (wpAny_callSpecial?_slot (name := Str.ofString "__getitem__") ht.typeIs PyProof.Rows.slot_tuple_getitem (wpAny_call_entry PyProof.Rows.slot_tuple_getitem ht.typeIs entry_tuple_getitem ?_ (args_tuple_getitem _ _)))
  show wpAny _ _ (Builtin.Tuple.tupleItemsOf (.ref t) >>= _) _ _ s
  refine wpAny_bind (PyProof.Rows.tupleItemsOf_ ht ?_)
  refine wpAny_bind (wpAny_typeOf ty ?_)
  rw [if_pos (by decide)]
  refine wpAny_bind (applied_rev hs ps ?_)
  have no : ¬ ((((items.size : Int) - 1 == 0 && (-1 : Int) == 1 && items.size == items.size)) = true) := by
    intro q
    rw [Bool.and_eq_true, Bool.and_eq_true] at q
    exact absurd q.1.2 (by decide)
  show wpAny _ _ (if ((items.size : Int) - 1 == 0 && (-1 : Int) == 1 && items.size == items.size) = true then _ else _) _ _ s
  rw [if_neg no, pick_rev]
  first
    | exact wpAny_bind (m := Builtin.Tuple.tupleExact _) (wpAny_newObj_type (wpAny_pure ⟨_, rfl, wpAny_pure h⟩) fit)
    | exact wpAny_bind (m := Builtin.Tuple.tupleExact _) (wpAny_newObj_type (wpAny_bind (wpAny_pure (wpAny_pure ⟨_, rfl, wpAny_pure h⟩))) fit)
    | exact wpAny_bind (wpAny_bind (m := Builtin.Tuple.tupleExact _) (wpAny_newObj_type (wpAny_pure (wpAny_pure ⟨_, rfl, wpAny_pure h⟩)) fit))
    | exact wpAny_bind (wpAny_bind (m := Builtin.Tuple.tupleExact _) (wpAny_newObj_type (wpAny_pure ⟨_, rfl, wpAny_pure h⟩) fit))
end
end DL
namespace DL
open PySem L2 PyProof.Rows
end DL
namespace DL
open PySem L2 PyProof.Rows
section
variable {K : Fg} {x qual : Str} {params : Arguments} {body : List Stmt} {scope : Scope} {dvs : List V} {kws : List (Str × V)} {f : Addr} {fd : FuncData} {ps : List Str}
/-- by places and by names, of a def with defaults by place (behind the keywords' values stand all of them); no keyword-only one lacks -/
theorem Bd.pos {dds : List D} (F : FunD K x qual params body scope dvs kws f fd) (n : Nat) (ks : List Str) (ix : List (Bool × Nat)) (hd : dvs ≠ []) (hf : Flats dvs dds) (hl : ix.length = ps.length) (ho : ixOk n (ks.length + dvs.length) ix = true)
    (h : ∀ (T : Addr) (kV doc pm : Value) (an : Option Addr) (cdv ct : Value) (us ws its : List Value), us.length = n → ws.length = ks.length → its.length = dvs.length →
      ∃ k, bindArgs (PySem.W.fnOf x qual params body scope (.ref T) kV doc pm an cdv ct) ⟨us, ks.zip ws⟩ = seqItems? (.ref T) >>= k ∧ k (some its.toArray) = pure (ps.zip (DL.pick ix us (ws ++ its)))) : Bd K fd ps n ks (fun xs zs => DL.pick ix xs (zs ++ dds.map R.val)) := by
  obtain ⟨oc, od, dV, kV, doc, pm, an, cdv, ct, osl, rfl, lk, hcd, hD, hK⟩ := F.ex
  rcases hD with ⟨e, _⟩ | ⟨_, T, o, its, m, rfl, lT, oT, rT⟩
  · exact absurd e hd
  · have l3 : its.length = dvs.length := rT.length.symm
    refine ⟨fun us ws => DL.pick ix us (ws ++ its), fun vs zs => DL.pick ix vs (zs ++ dvs), ⟨fun s us ws X l1 l2 => ?_, fun r q => pick_vals r (q.append rT) ix⟩, fun vs zs l1 l2 => ?_, fun F s xs vs zs ws t q _ _ => pick_rts t (q.append hf.rts) ix⟩
    · obtain ⟨k, e1, e2⟩ := h T kV doc pm an cdv ct us ws its l1 l2 l3
      refine BindsTo.of_looks fun M => ?_
      rw [e1]
      exact looks_items X lT oT (.of_pure e2)
    · rw [pick_length (by rw [l1, List.length_append, l2]; exact ho), hl]
end
end DL
namespace DL
open PySem L2 PyProof.Rows
end DL
namespace DL
open PySem L2 PyProof.Rows
theorem range_cons (lo : Int) (n : Nat) : rangeD lo (n + 1) = .int lo :: rangeD (lo + 1) n := by
  unfold rangeD
  rw [List.range_succ_eq_map, List.map_cons, List.map_map]
  simp only [List.cons.injEq, List.map_inj_left, Function.comp]
  refine ⟨by simp, fun a _ => ?_⟩
  congr 1
  omega
end DL
namespace DL
open PySem L2 PyProof.Rows PpSet
def GoodT (w : World) (e : Int × Value) : Prop := ∃ x tk, e.2 = Value.str x tk ∧ e.1 = hashStr w x
def tOf (e : Int × Value) : Str := match e.2 with
  | .str x _ => x
  | _ => ⟨#[]⟩
def SetT (w : World) (h : Heap) (a : Addr) (S : Str → Bool) (n : Nat) : Prop :=
  ∃ o es ep t, h.get? a = some o ∧ o.ExactSet ∧ o.data = .set es ep t ∧ (∀ e ∈ es.toList, GoodT w e) ∧ (es.toList.map tOf).Nodup ∧ (∀ k, S k = true ↔ k ∈ es.toList.map tOf) ∧
    es.size < scanBound ∧ t.fits es.size = true ∧ es.size = n ∧ Ris t.place.toList ∧ (w.params.followText "set-order" = true ∨ t.led = true)
section
variable {P : Program} {w : World} {h h' : Heap} {a : Addr} {S : Str → Bool} {n : Nat}
theorem SetT.at (R : SetT w h a S n) (k : ∀ o, h.get? a = some o → h'.get? a = some o) : SetT w h' a S n := by
  obtain ⟨o, es, ep, t, ho, r⟩ := R
  exact ⟨o, es, ep, t, k o ho, r⟩
end
end DL
namespace DL
open PySem L2 PyProof.Rows PpSet
end DL
namespace DL
open PySem L2 PyProof.Rows PpSet
end DL
namespace DL
open PySem L2 PyProof.Rows
end DL
namespace DL
open PySem L2 PyProof.Rows
def revS (x : Str) : Str := ⟨x.cps.toList.reverse.toArray⟩
theorem revS_len (x : Str) : (revS x).length = x.length := by
  show x.cps.toList.reverse.toArray.size = x.cps.size
  rw [List.size_toArray, List.length_reverse, Array.length_toList]
theorem picked_rev (x : Str) (t : Tok) : (slicePicked x none none (some (-1, t))).filterMap (x.cps[·]?) = x.cps.toList.reverse := by
  have e : slicePicked x none none (some (-1, t)) = sliceRange ((x.length : Int) - 1) (-1) (-1) := rfl
  rw [e, PySem.W.krv_sliceRange, PySem.W.krv_range, List.filterMap_reverse]
  show ((List.range x.cps.size).filterMap (x.cps[·]?)).reverse = _
  rw [PySem.W.krv_all]
theorem get_str_rev {prog : Program} {w : World} {A : Around} {E : Value → Shared → Prop} {s : Shared} {x : Str} {t : Tok} {sl : Addr} {vs : Value} {Q : Value → Shared → Prop} (hs : s.heap.IsSliceOf sl .none .none vs) (ps : IsPart vs (some (-1))) (hsz : x.length ≤ sizeLine)
    (h : ∀ t' k, Q (.str (revS x) t') { s with toks := k }) : wpAny (model prog w) A (getItem (.str x t) (.ref sl)) Q E s := by
  cases ps with
  | int _ tk =>
  refine wpAny_getItem_str_slice (l := none) (u := none) (st := some (-1, tk)) hs (show ((-1 : Int) == 0) = false by decide) ?_
  unfold sliceMade
  rw [if_neg (by simp), picked_rev]
  exact ⟨by rw [show (⟨x.cps.toList.reverse.toArray⟩ : Str) = revS x from rfl, revS_len]; exact hsz, h _ _⟩
section
variable {X : Cx}
def tRevB (K : Fg) (te : TE) : TE := fun σ H Q => te σ H fun x H1 => (∃ t : Str, x = .str t ∧ t.length ≤ sizeLine ∧ Q (.str (revS t)) H1) ∨ ∃ a xs, x = .ref a ∧ ((SqT K H1 a xs ∧ newT xs.reverse H1 Q) ∨ (SqL K H1 a xs ∧ ∀ p, H1 p = none → Q (.ref p) (upd H1 p (.lst xs.reverse))))
theorem pe_revB {e : Expr} {te : TE} {k : Nat} {p1 p2 p3 pos : Pos} (he : PE X e te) : PE X (.Subscript e (.Slice none none (some (.UnaryOp .USub (.Constant (.int 1) k p1) p2)) p3) pos) (tRevB X.K te) := by
  refine ⟨fun pins s σ H Q I h => Subscript_ (thn (he.run pins s σ H _ I h) fun v s1 ⟨x, H1, I1, r1, q1⟩ => ?_)⟩
  have st : PO X (some (.UnaryOp .USub (.Constant (.int 1) k p1) p2)) (tPart (tUn (rU fun i => .int (-i)) (tC (.int 1)))) := po_some (pe_un un_neg pe_int)
  refine wpAny_Slice (thn (po_none.run pins s1 σ H1 (fun o H2 => o = none ∧ H2 = H1) I1 ⟨rfl, rfl⟩) fun vl s2 ⟨l, H2, I2, pl, el, e2⟩ => ?_)
  subst el e2
  refine thn (po_none.run pins s2 σ H2 (fun o H3 => o = none ∧ H3 = H2) I2 ⟨rfl, rfl⟩) fun vu s3 ⟨u, H3, I3, pu, eu, e3⟩ => ?_
  subst eu e3
  refine thn (st.run pins s3 σ H3 (fun o H4 => o = some (-1) ∧ H4 = H3) I3 ⟨1, rfl, -1, rfl, rfl, rfl⟩) fun vs s4 ⟨o, H4, I4, ps, eo, e4⟩ => ?_
  subst eo e4
  cases pl
  cases pu
  have I5 : Inv X pins σ H4 { s4 with heap := s4.heap.push { cls := .type "slice", data := .fields #[.none, .none, vs] } } := I4.kept (t' := s4.toks) fun b ob q => Heap.get?_push_of_some _ q
  rcases q1 with ⟨t, ex, ht, q⟩ | ⟨a, xs, ex, hx⟩
  · subst ex
    obtain ⟨u, rfl⟩ := (show ∃ u, v = Value.str t u from r1)
    show wpAny (model X.prog X.w) X.A (subscriptTail e (.Slice none none (some (.UnaryOp .USub (.Constant (.int 1) k p1) p2)) p3) (.str t u) (.ref s4.heap.objs.size)) (EP X pins σ Q) X.xe { s4 with heap := s4.heap.push { cls := .type "slice", data := .fields #[.none, .none, vs] } }
    refine tail_any (ops := [.str t u, .ref s4.heap.objs.size]) (typeIs_str _ _ _) (PySem.F.slot_str_getitem.lookup) ?_ (by with_unfolding_all rfl)
    refine get_str_rev (Heap.IsSliceOf.new _ .none .none vs) ps ht fun t' k => ?_
    exact ⟨.str (revS t), H4, I5.kept (t' := k) fun b ob q => q, ⟨t', rfl⟩, q⟩
  subst ex
  cases r1
  show wpAny (model X.prog X.w) X.A (subscriptTail e (.Slice none none (some (.UnaryOp .USub (.Constant (.int 1) k p1) p2)) p3) (.ref a) (.ref s4.heap.objs.size)) (EP X pins σ Q) X.xe { s4 with heap := s4.heap.push { cls := .type "slice", data := .fields #[.none, .none, vs] } }
  rcases hx with ⟨hx, q⟩ | ⟨hx, q⟩
  · obtain ⟨its, r, ht, hz⟩ := I5.tuple hx
    have hlen := r.length
    refine tail_any (ops := [.ref a, .ref s4.heap.objs.size]) ht.typeIs (PyProof.Rows.slot_tuple_getitem.lookup) ?_ (by with_unfolding_all rfl)
    refine get_tup_rev ht (Heap.IsSliceOf.new _ .none .none vs) ps ?_ (by rw [List.size_toArray]; omega)
    exact ep_tup I5 r.reverse (by rw [List.length_reverse]; exact hz) q
  · obtain ⟨its, r, ht, hz⟩ := I5.list hx
    have hlen := r.length
    refine tail_any (ops := [.ref a, .ref s4.heap.objs.size]) ht.isList.typeIs (PySem.slot_list_getitem.lookup) ?_ (by with_unfolding_all rfl)
    refine wpAny_getItem_list_slice ht.isList (Heap.IsSliceOf.new _ .none .none vs) .none .none ps (by decide) ?_ (by rw [List.size_toArray]; omega)
    rw [PySem.W.krv_pick]
    exact ⟨.ref _, _, I5.laid (t' := s4.toks) (o := .lst xs.reverse) (fun b ob q => Heap.get?_push_of_some _ q) (Nat.le_refl _) ⟨by rw [List.length_reverse]; exact hz, _, 0, r.reverse, Heap.get?_push_size _ rfl⟩, rfl, q _ (I5.hok.fresh (Nat.le_refl _))⟩
def KRevB (P : Po) (x : R) (r : Rho) : Prop := onO (look r x) fun d => match d with
  | .str t => Rq (t.length ≤ sizeLine) (P (.val (.str (revS t))) r)
  | .tuple ds => P (.val (.tuple ds.reverse)) r
  | .list ds => P (.own (.L ds.reverse)) r
  | _ => False
def mRevB (ma : ME) : ME := fun r P => ma r fun x r1 => KRevB P x.tmp r1
theorem de_revB {a : Expr} {ma : ME} {k : Nat} {p1 p2 p3 pos : Pos} (ha : DE X a ma) : DE X (.Subscript a (.Slice none none (some (.UnaryOp .USub (.Constant (.int 1) k p1) p2)) p3) pos) (mRevB ma) := fun e => by
  refine PE.imp (pe_revB (ha.tmp e)) fun s H Q ⟨F, r, k, P, hm, hP⟩ => ?_
  refine ⟨F, r, k, fun x r1 => KRevB P x r1, hm, fun x r1 v F1 H1 hx k1 q1 t1 => ?_⟩
  obtain ⟨d, e1, h1⟩ := onO.ex hx
  have lk := t1.look k1 e1
  split at h1
  · rename_i t
    have ev : v = .str t := lk.key (k := .inr t) rfl
    subst ev
    exact .inl ⟨t, rfl, Rq.c h1, hP _ r1 _ F1 _ (Rq.a h1) k1 q1 (.val (.str _))⟩
  · obtain ⟨a, xs, rfl, g1, g2, _⟩ := lk.tup k1.sub
    refine .inr ⟨a, xs, rfl, .inl ⟨g1, fun p o hp hd => ?_⟩⟩
    have kf := k1.free hp
    exact hP _ r1 _ _ _ h1 (k1.lay hp) (q1.trans (Sub.new kf.1)) (.val (.tup (TpOk.new hd g2.rev) (g2.rev.mono (Sub.new kf.1))))
  · obtain ⟨a, xs, rfl, g1, g2⟩ := lk.lst k1.sub
    refine .inr ⟨a, xs, rfl, .inr ⟨.inl g1, fun p hp => ?_⟩⟩
    exact hP _ r1 _ F1 _ h1 (k1.alloc hp) q1 (RR.newL k1 hp g2.rev)
  · exact h1.elim
end
end DL
namespace DL
open PySem L2 PyProof.Rows
theorem vals_pt : ∀ {xs : List V} {us : List Value}, xs.length = us.length → (∀ (i : Nat) x u, xs[i]? = some x → us[i]? = some u → RelV x u) → Vals xs us
  | [], [], _, _ => .nil
  | [], _ :: _, h, _ => by simp at h
  | _ :: _, [], h, _ => by simp at h
  | x :: xs, u :: us, h, q => .cons (q 0 x u rfl rfl) (vals_pt (by simpa using h) fun i a b ha hb => q (i + 1) a b (by simpa using ha) (by simpa using hb))
end DL
namespace DL
open PySem L2 PyProof.Rows
end DL
namespace DL
open PySem L2 PyProof.Rows
end DL
namespace DL
open PySem L2 PyProof.Rows
section
variable {X : Cx}
def rNeT0 (K : Fg) : R2 := fun x y H Q => ∃ a b xs, x = .ref a ∧ y = .ref b ∧ SqT K H a xs ∧ SqT K H b [] ∧ Q (.bl (!xs.isEmpty)) H
theorem op_neT0 (hu : X.A.units + 64 < cLine) : OpR X (compareOp .NotEq) (rNeT0 X.K) := by
  intro pins s σ H x y v u Q I rx ry h
  obtain ⟨a, b, xs, rfl, rfl, h1, h2, q⟩ := h
  obtain rfl : v = Value.ref a := rx
  obtain rfl : u = Value.ref b := ry
  obtain ⟨its, rv, p, _⟩ := I.tuple h1
  obtain ⟨its2, rv2, p2, _⟩ := I.tuple h2
  cases rv2
  have z := SeqAt.RcNeAt.tuples (A := X.A) (e := fun _ => true) (show s.heap.IsTuple a its.toArray from p) (show s.heap.IsTuple b ([] : List Value).toArray from p2) (by omega) (fun j j1 j2 => by simp at j2)
  refine z X.prog X.w X.xe _ ⟨.bl (!xs.isEmpty), H, I, ?_, q⟩
  have hl := rv.length
  have e : ((List.range (min its.toArray.size ([] : List Value).toArray.size)).all (fun _ => true) && its.toArray.size == ([] : List Value).toArray.size) = xs.isEmpty := by
    cases xs with
    | nil => cases rv; rfl
    | cons x xs => cases rv; simp
  rw [e]; rfl
def fNeT0 : F2 := fun a b => match a, b with
  | .tuple ds, .tuple [] => some (.val (.bool (!ds.isEmpty)))
  | _, _ => none
theorem opd_neT0 (hu : X.A.units + 64 < cLine) : OpD X (compareOp .NotEq) fNeT0 := by
  refine ⟨_, op_neT0 hu, fun e F r s H v1 v2 d1 d2 z Q k l1 l2 ef w => ?_⟩
  unfold fNeT0 at ef
  split at ef
  · rename_i ds
    cases ef
    obtain ⟨a, xs, rfl, h1, h2, _⟩ := l1.tup k.sub
    obtain ⟨b, ys, rfl, h3, h4, _⟩ := l2.tup k.sub
    cases h4
    refine ⟨a, b, xs, rfl, rfl, h1, h3, ?_⟩
    rw [h2.isEmpty]
    exact w _ F H k (Sub.refl F) (.val (.bl _))
  · cases ef
def rNeL0 (K : Fg) : R2 := fun x y H Q => ∃ a b xs, x = .ref a ∧ y = .ref b ∧ SqL K H a xs ∧ SqL K H b [] ∧ Q (.bl (!xs.isEmpty)) H
theorem op_neL0 (hu : X.A.units + 64 < cLine) : OpR X (compareOp .NotEq) (rNeL0 X.K) := by
  intro pins s σ H x y v u Q I rx ry h
  obtain ⟨a, b, xs, rfl, rfl, h1, h2, q⟩ := h
  obtain rfl : v = Value.ref a := rx
  obtain rfl : u = Value.ref b := ry
  obtain ⟨its, rv, p, _⟩ := I.list h1
  obtain ⟨its2, rv2, p2, _⟩ := I.list h2
  cases rv2
  have hl := rv.length
  cases xs with
  | nil =>
    cases rv
    have z := SeqAt.RcNeAt.lists (A := X.A) (e := fun _ => true) p.isList p2.isList rfl (by omega) (fun j j1 j2 => by simp at j2)
    exact z X.prog X.w X.xe _ ⟨.bl false, H, I, rfl, q⟩
  | cons x xs =>
    have z := SeqAt.RcNeAt.lists_lengths (A := X.A) p.isList p2.isList (by rw [List.size_toArray, ← hl]; rfl) (by omega)
    exact z X.prog X.w X.xe _ ⟨.bl true, H, I, rfl, q⟩
def fNeL0 : F2 := fun a b => match a, b with
  | .list ds, .list [] => some (.val (.bool (!ds.isEmpty)))
  | _, _ => none
theorem opd_neL0 (hu : X.A.units + 64 < cLine) : OpD X (compareOp .NotEq) fNeL0 := by
  refine ⟨_, op_neL0 hu, fun e F r s H v1 v2 d1 d2 z Q k l1 l2 ef w => ?_⟩
  unfold fNeL0 at ef
  split at ef
  · rename_i ds
    cases ef
    obtain ⟨a, xs, rfl, h1, h2⟩ := l1.lst k.sub
    obtain ⟨b, ys, rfl, h3, h4⟩ := l2.lst k.sub
    cases h4
    refine ⟨a, b, xs, rfl, rfl, .inl h1, .inl h3, ?_⟩
    rw [h2.isEmpty]
    exact w _ F H k (Sub.refl F) (.val (.bl _))
  · cases ef
def fNeU : F2 := orF (orF fNeT0 fNeL0) fNe
theorem opd_neU (hu : X.A.units + 64 < cLine) : OpD X (compareOp .NotEq) fNeU := (((opd_neT0 hu).or (opd_neL0 hu)).or (opd_ne hu))
def kNeU : D → D → (R → Prop) → Prop
  | .tuple ds, .tuple [], K => K (.val (.bool (!ds.isEmpty)))
  | .list ds, .list [], K => K (.val (.bool (!ds.isEmpty)))
  | a, b, K => kNe a b K
def oNeU : OpK := ⟨fNeU, kNeU, fun d1 d2 K h => by
  have key : (∃ ds, d1 = .tuple ds ∧ d2 = .tuple []) ∨ (∃ ds, d1 = .list ds ∧ d2 = .list []) ∨ (orF fNeT0 fNeL0 d1 d2 = none ∧ kNeU d1 d2 K = kNe d1 d2 K) := by
    cases d1 <;> cases d2 <;> first
      | exact .inr (.inr ⟨rfl, rfl⟩)
      | (rename_i a b
         cases b with
         | nil => first | exact .inl ⟨_, rfl, rfl⟩ | exact .inr (.inl ⟨_, rfl, rfl⟩)
         | cons x y => exact .inr (.inr ⟨rfl, rfl⟩))
  rcases key with ⟨ds, rfl, rfl⟩ | ⟨ds, rfl, rfl⟩ | ⟨e1, e2⟩
  · exact ⟨_, rfl, h⟩
  · exact ⟨_, rfl, h⟩
  · rw [e2] at h
    obtain ⟨z, e, hz⟩ := oNe.ok _ _ _ h
    refine ⟨z, ?_, hz⟩
    show (match orF fNeT0 fNeL0 d1 d2 with | some z => some z | none => fNe d1 d2) = some z
    rw [e1]
    exact e⟩
end
end DL
namespace DL
open PySem L2 PyProof.Rows
section
variable {X : Cx}
theorem call_listT (hc : X.calm = true) : CallR X (.type "list") (fun xs H Q => ∃ x : Str, xs = [.str x] ∧ x.length ≤ sizeLine ∧ ∀ l, H l = none → Q (.ref l) (upd H l (.lst (x.cps.toList.map fun c => V.str ⟨#[c]⟩)))) := by
  intro pins s σ H xs us Q I r h
  obtain ⟨x, rfl, hz, q⟩ := h
  obtain ⟨u, rfl, t, rfl⟩ := vals1 r
  refine call_list_str (I.ok.hd hc) x t (fun h' tk acc c k hget hacc => ?_) hz
  have hv : Vals (x.cps.toList.map fun c => V.str ⟨#[c]⟩) acc.toList := by
    refine vals_pt (by rw [List.length_map, Array.length_toList, Array.length_toList, hacc.1]) fun i y u hy hu => ?_
    obtain ⟨c, tt, e1, rfl⟩ := hacc.2 i u (by rw [← Array.getElem?_toList]; exact hu)
    rw [List.getElem?_map, Array.getElem?_toList, e1] at hy
    cases hy
    exact ⟨tt, rfl⟩
  have hl : (x.cps.toList.map fun c => V.str ⟨#[c]⟩).length ≤ sizeLine := by rw [List.length_map, Array.length_toList]; exact hz
  exact ⟨.ref _, _, I.laid (t' := tk) (o := .lst (x.cps.toList.map fun c => V.str ⟨#[c]⟩)) k (Nat.le_refl _) ⟨hl, acc.toList, c, hv, by simpa using hget⟩, rfl, q _ (I.hok.fresh (Nat.le_refl _))⟩
def fListU : FA
  | [.list ds] => some (.own (.L ds))
  | [.tuple ds] => some (.own (.L ds))
  | [.str x] => if x.length ≤ sizeLine then some (.own (.L (signsD x))) else none
  | _ => none
theorem rpA_signs {K : Fg} {F : Hp} : ∀ cs : List Nat, RpA K F (cs.map fun c => V.str ⟨#[c]⟩) (cs.map fun c => PyData.str ⟨#[c]⟩)
  | [] => .nil
  | c :: cs => .cons (.str _) (rpA_signs cs)
theorem calld_listU (hc : X.calm = true) : CallD X (.type "list") fListU := by
  refine ⟨_, CallR.or call_list_of (call_listT hc), fun e F r s H vs ds z Q k l ef w => ?_⟩
  unfold fListU at ef
  split at ef
  · cases ef
    obtain ⟨v, rfl, lk⟩ := l.one
    obtain ⟨p, xs, rfl, g2, g3⟩ := lk.lst k.sub
    exact .inl ⟨p, xs, rfl, .inl (.inl g2), fun q nq => w _ F _ (k.alloc nq) (Sub.refl F) (.newL k nq g3)⟩
  · cases ef
    obtain ⟨v, rfl, lk⟩ := l.one
    obtain ⟨p, xs, rfl, g2, g3, _⟩ := lk.tup k.sub
    exact .inl ⟨p, xs, rfl, .inr g2, fun q nq => w _ F _ (k.alloc nq) (Sub.refl F) (.newL k nq g3)⟩
  · rename_i x
    split at ef
    · rename_i hz
      cases ef
      obtain ⟨v, rfl, lk⟩ := l.one
      have ev := lk.flat (show flatD (.str x) = true from rfl)
      subst ev
      exact .inr ⟨x, rfl, hz, fun q nq => w _ F _ (k.alloc nq) (Sub.refl F) (.newL k nq (rpA_signs _))⟩
    · cases ef
  · cases ef
def kListU : List D → (R → Prop) → Prop
  | [.list ds], K => K (.own (.L ds))
  | [.tuple ds], K => K (.own (.L ds))
  | [.str x], K => Rq (x.length ≤ sizeLine) (K (.own (.L (signsD x))))
  | _, _ => False
def cListU : CaK := ⟨fListU, kListU, fun ds K h => by
  unfold kListU at h
  split at h
  · exact ⟨_, rfl, h⟩
  · exact ⟨_, rfl, h⟩
  · exact ⟨_, rq_if h, Rq.a h⟩
  · exact h.elim⟩
end
end DL
namespace DL
open PySem L2 PyProof.Rows
section
variable {X : Cx} {x : Str} {a b : Expr} {ma mb : ME} {pos pos' : Pos} {vs : List Nat} {op : CmpOp} {o : OpK}
theorem dv (i : Nat) (hN : X.N[i]? = some x := by rfl) (hv : Vis X.env.scope x := by first | exact .inl rfl | exact .inr (.inl rfl) | exact .inr (.inr rfl)) (hd : (x == ("__debug__" : Str)) = false := by decide) (hcd : (x == ("__classdict__" : Str)) = false := by decide) : DE X (.Name x pos) (mVar i) := de_var hN hv hd hcd
theorem dst (i : Nat) (hN : X.N.Nodup) (ha : DE X a ma) (hi : X.N[i]? = some x := by rfl) (hx : Loc X.env.scope x := by first | exact .inl rfl | exact .inr rfl) (hs : swapsWith a (some (.Name x pos')) pos.line X.env = pure false := by rfl) (hf : X.fn x = true ∨ X.env.scope.names.lookup x = some .local := by first | exact .inl rfl | exact .inr rfl | assumption) :
    DS X (.Assign [.Name x pos'] a pos) (sSet i ma) := ds_set hN hi hx ha hs hf
theorem dgn (i : Nat) (hN : X.N.Nodup) (hi : X.N[i]? = some x := by rfl) (hx : Loc X.env.scope x := by first | exact .inl rfl | exact .inr rfl) (hv : i ∈ vs := by simp) (hf : X.fn x = true ∨ X.env.scope.names.lookup x = some .local := by first | exact .inl rfl | exact .inr rfl | assumption) : DG X (.Name x pos) vs (gNm i) := dg_name hN hi hx hv hf
theorem dtc (ho : OpD X (compareOp op) o.f) (ha : DE X a ma) (hb : DE X b mb) (hm : behindInMarks op b = false := by rfl) : DT X (.Compare a [op] [b] pos) (mTest (mOp o ma mb)) := dt_cmp ho ha hb hm
theorem dec (ho : OpD X (compareOp op) o.f) (ha : DE X a ma) (hb : DE X b mb) (hm : behindInMarks op b = false := by rfl) : DE X (.Compare a [op] [b] pos) (mOp o ma mb) := de_cmp ho ha hb hm
end
end DL
namespace DL
open PySem L2 PyProof.Rows
section
variable {K : Fg} {e : En} {F : Hp} {r : Rho} {s : L2.St} {H : Hp}
def ghAt (r : Rho) (g : Nat) : Option Gh := match r[g]? with
  | some (some (.gh G)) => some G
  | _ => none
theorem ghAt_of {g : Nat} {G : Gh} (h : ghAt r g = some G) : r[g]? = some (some (.gh G)) := by
  unfold ghAt at h
  split at h
  · rename_i q; cases h; exact q
  · cases h
end
end DL
namespace DL
open PySem L2 PyProof.Rows
def adrOf : R → Option (Nat × Addr)
  | .adr n a => some (n, a)
  | _ => none
theorem adrOf_of {x : R} {n : Nat} {a : Addr} (h : adrOf x = some (n, a)) : x = .adr n a := by
  cases x <;> first | (cases h; rfl) | cases h
def x1R : X1 → R
  | .val d => .val d
  | .adr n a => .adr n a
def onI (nd : Nd) (k : Str → Addr → List (Str × X1) → Prop) : Prop := match nd with
  | .ins C dx fs => k C dx fs
  | _ => False
theorem onI.ex {nd : Nd} {k : Str → Addr → List (Str × X1) → Prop} (h : onI nd k) : ∃ C dx fs, nd = .ins C dx fs ∧ k C dx fs := by
  cases nd <;> first | exact h.elim | exact ⟨_, _, _, rfl, h⟩
/-- x is a node of the frame -/
def onN (r : Rho) (g : Nat) (x : R) (k : Nat → Addr → Gh → Nd → Prop) : Prop := onP (adrOf x) fun n a => onO (ghAt r g) fun G => onP (G[n]?) fun a' nd => a' = a ∧ k n a G nd
theorem onN.ex {r : Rho} {g : Nat} {x : R} {k : Nat → Addr → Gh → Nd → Prop} (h : onN r g x k) : ∃ n a G nd, x = .adr n a ∧ r[g]? = some (some (.gh G)) ∧ G[n]? = some (a, nd) ∧ k n a G nd := by
  obtain ⟨n, a, e1, h1⟩ := onP.ex h
  obtain ⟨G, e2, h2⟩ := onO.ex h1
  obtain ⟨a', nd, e3, e4, h3⟩ := onP.ex h2
  subst e4
  exact ⟨n, a', G, nd, adrOf_of e1, ghAt_of e2, e3, h3⟩
section
variable {K : Fg} {e : En} {F : Hp} {r : Rho} {s : L2.St} {H : Hp}
theorem XOk.rr {v : V} {x : X1} (h : XOk K F v x) : RR K e F r s H (x1R x) v := by
  cases h with
  | val a => exact .val a
  | adr => exact .adr
theorem XsOk.get : ∀ {vs : List V} {xs : List X1} {j : Nat} {x : X1}, XsOk K F vs xs → xs[j]? = some x → ∃ v, vs[j]? = some v ∧ XOk K F v x
  | _, _, _, _, .nil, e => by simp at e
  | _, _, 0, _, .cons h _, e => by simp at e; subst e; exact ⟨_, rfl, h⟩
  | _, _, j + 1, x, .cons _ r, e => by
    obtain ⟨v, e1, h⟩ := XsOk.get (j := j) (x := x) r (by simpa using e)
    exact ⟨v, by simpa using e1, h⟩
theorem XsOk.length : ∀ {vs : List V} {xs : List X1}, XsOk K F vs xs → vs.length = xs.length
  | _, _, .nil => rfl
  | _, _, .cons _ r => by rw [List.length_cons, List.length_cons, XsOk.length r]
theorem XsOk.append : ∀ {vs ws : List V} {xs ys : List X1}, XsOk K F vs xs → XsOk K F ws ys → XsOk K F (vs ++ ws) (xs ++ ys)
  | _, _, _, _, .nil, s => s
  | _, _, _, _, .cons h r, s => .cons h (XsOk.append r s)
theorem XsOk.set {v : V} {x : X1} (h : XOk K F v x) : ∀ {vs : List V} {xs : List X1} (n : Nat), XsOk K F vs xs → XsOk K F (vs.set n v) (xs.set n x)
  | _, _, _, .nil => .nil
  | _, _, 0, .cons _ r => .cons h r
  | _, _, n + 1, .cons q r => .cons q (XsOk.set h n r)
end
end DL
namespace DL
open PySem L2 PyProof.Rows
end DL
namespace DL
open PySem L2 PyProof.Rows
end DL
namespace DL
open PySem L2 PyProof.Rows
end DL
namespace DL
open PySem L2 PyProof.Rows
def onL (nd : Nd) (k : List X1 → Prop) : Prop := match nd with
  | .lst ws => k ws
  | _ => False
theorem onL.ex {nd : Nd} {k : List X1 → Prop} (h : onL nd k) : ∃ ws, nd = .lst ws ∧ k ws := by
  cases nd <;> first | exact h.elim | exact ⟨_, rfl, h⟩
theorem XsOk.at {K : Fg} {F : Hp} {vs : List V} {ds : List X1} {i : Int} {d : X1} (h : XsOk K F vs ds) (q : atI ds i = some d) : ∃ v, atI vs i = some v ∧ XOk K F v d := by
  unfold atI at q ⊢
  rw [h.length]
  cases z : ixN ds.length i with
  | none => rw [z] at q; cases q
  | some j =>
    rw [z] at q
    obtain ⟨v, e1, e2⟩ := h.get (show ds[j]? = some d from q)
    exact ⟨v, e1, e2⟩
theorem XsOk.take {K : Fg} {F : Hp} : ∀ {vs : List V} {ds : List X1} (n : Nat), XsOk K F vs ds → XsOk K F (vs.take n) (ds.take n)
  | _, _, 0, _ => .nil
  | _, _, _ + 1, .nil => .nil
  | _, _, n + 1, .cons h r => .cons h (XsOk.take n r)
end DL
namespace DL
open PySem L2 PyProof.Rows
end DL
namespace DL
open PySem L2 PyProof.Rows
end DL
namespace DL
open PySem L2 PyProof.Rows
end DL
namespace DL
open PySem L2 PyProof.Rows
end DL
namespace DL
open PySem L2 PyProof.Rows
/-- the class x of the module has the method m, which keeps c -/
structure MethP (P : Program) (w : World) (K : Fg) (mg : Str → Option Value) (base : Heap) (k : Nat) (C m : Str) (n : Nat) (c : Ct) : Prop where
  ex : ∃ f fd ps, Meth K (He.ga K C) m f ∧ FnD P w K mg base k f fd ps c ∧ Binds K fd ps [] ∧ ps.length = n
theorem MethP.of {P : Program} {w : World} {K : Fg} {mg : Str → Option Value} {base : Heap} {k : Nat} {C m : Str} {c : Ct} {f : Addr} {fd : FuncData} {ps : List Str} (hm : Meth K (He.ga K C) m f) (F : FnD P w K mg base k f fd ps c) (hb : Binds K fd ps []) : MethP P w K mg base k C m ps.length c := ⟨⟨f, fd, ps, hm, F, hb, rfl⟩⟩
/-- the class x of the module is made by what keeps c -/
structure MakeP (P : Program) (w : World) (K : Fg) (mg : Str → Option Value) (base : Heap) (k : Nat) (x : Str) (n : Nat) (c : Ct) : Prop where
  ex : ∃ j f fd ps, j + 1 ≤ k ∧ L2.Mk K (He.ga K x) f ∧ FnD P w K mg base j f fd ps c ∧ Binds K fd ps [] ∧ ps.length = n ∧ mg x = some (.ref (He.ga K x))
theorem MakeP.of {P : Program} {w : World} {K : Fg} {mg : Str → Option Value} {base : Heap} {j k : Nat} {x : Str} {c : Ct} {f : Addr} {fd : FuncData} {ps : List Str} (hj : j + 1 ≤ k) (hg : mg x = some (.ref (He.ga K x))) (hm : L2.Mk K (He.ga K x) f) (F : FnD P w K mg base j f fd ps c) (hb : Binds K fd ps []) : MakeP P w K mg base k x ps.length c := ⟨⟨j, f, fd, ps, hj, hm, F, hb, rfl, hg⟩⟩
end DL
namespace DL
open PySem PySem.Spec L2 PyProof.Rows
end DL
namespace DL
open PySem L2 PyProof.Rows
end DL
namespace DL
open PySem L2 PyProof.Rows
end DL
namespace DL
open PySem L2 PyProof.Rows
end DL
namespace DL
open PySem PySem.Spec L2 PyProof.Rows PpSet
end DL
namespace DL
open PySem L2 PyProof.Rows PpSet
end DL
namespace DL
open PySem L2 PyProof.Rows
end DL
namespace DL
open PySem L2 PyProof.Rows
section
variable {X : Cx} {pins : List (Addr × Obj)} {σ : L2.St} {H : Hp} {s : Shared}
theorem plainZ (I : Inv X pins σ H s) {a : Addr} {xs : List V} (h : SqZ X.K H a xs) : ∃ its : List Value, Vals xs its ∧ PySem.PlainSeq "tuple" s.heap a its.toArray ∧ xs.length ≤ sizeLine := by
  rcases h with ⟨o, h, hd⟩ | ⟨o, its, n, h1, h2, h3, h4, h5, h6⟩
  · obtain ⟨e1, e2, its, r, o2, e3, e4, n, e5⟩ := I.hok a _ h
    rw [e1] at e3
    cases e3
    exact ⟨its, r, ⟨o, n, e1, e4, hd, e5⟩, e2⟩
  · exact ⟨its.toList, h6, ⟨o, n, I.kIn a o h1, h2, h3, by simpa using h4⟩, by rw [h6.length]; simpa using h5⟩
theorem pairsZ (I : Inv X pins σ H s) : ∀ {ps : List Addr} {kvs : List (Key × V)}, Paired (fun p kv => SqT X.K H p [kV kv.1, kv.2]) ps kvs →
    ∃ (prs : List (Key × Value)) (vs : List (Value × Value)), KV kvs prs ∧ prs.length = ps.length ∧ vs.length = ps.length ∧
      (∀ (j : Nat) (k v : Value), vs[j]? = some (k, v) → (∃ b, ps[j]? = some b ∧ IsTup s.heap b #[k, v]) ∧ ∃ q, prs[j]? = some (q, v) ∧ keyIs q k = true)
  | _, _, .nil => ⟨[], [], .nil, rfl, rfl, fun j k v e => by simp at e⟩
  | _, _, .cons (a := p) (b := kv) h t => by
    obtain ⟨prs, vs, r, l1, l2, hp⟩ := pairsZ I t
    obtain ⟨its, rv, ht, _⟩ := I.tuple h
    obtain ⟨u, y, ei, ru, ry⟩ := vals2 rv
    subst ei
    refine ⟨(kv.1, y) :: prs, (u, y) :: vs, .cons ⟨rfl, ry⟩ r, by rw [List.length_cons, List.length_cons, l1], by rw [List.length_cons, List.length_cons, l2], fun j k v e => ?_⟩
    cases j with
    | zero =>
      simp at e
      obtain ⟨e1, e2⟩ := e
      subst e1 e2
      exact ⟨⟨p, rfl, ht⟩, kv.1, rfl, kV_is (P := X.prog) (w := X.w) ru⟩
    | succ j =>
      obtain ⟨⟨b, e1, e2⟩, q, e3, e4⟩ := hp j k v (by simpa using e)
      exact ⟨⟨b, by simpa using e1, e2⟩, q, by simpa using e3, e4⟩
def rDictZ (K : Fg) (xs : List V) (H : Hp) (Q : VK) : Prop := ∃ (a : Addr) (ps : List Addr) (kvs : List (Key × V)), xs = [.ref a] ∧ SqZ K H a (ps.map V.ref) ∧ Paired (fun p kv => SqT K H p [kV kv.1, kv.2]) ps kvs ∧ ∀ p, H p = none → Q (.ref p) (upd H p (.dK (mergeK [] kvs)))
theorem call_dictZ (hc : X.calm = true) : CallR X (.type "dict") (rDictZ X.K) := by
  intro pins s σ H xs us Q I r ⟨a, ps, kvs, ex, hq, hp, q⟩
  subst ex
  obtain ⟨u, eu, rx⟩ := vals1 r
  subst eu
  cases rx
  obtain ⟨its, rv, pl, hz⟩ := plainZ I hq
  have ei := refs_at rv
  subst ei
  rw [List.length_map] at hz
  obtain ⟨prs, vs, rel, l1, l2, hpr⟩ := pairsZ I hp
  have it : PySem.PairItems s.heap (ps.map Value.ref).toArray (fun j => ps.getD j 0) vs := ⟨by simp [l2], fun j k v e => by
    obtain ⟨⟨b, e1, e2⟩, _⟩ := hpr j k v e
    refine ⟨by simp [e1, List.getD_eq_getElem?_getD], .inl ?_⟩
    show IsTup s.heap (ps.getD j 0) #[k, v]
    rw [List.getD_eq_getElem?_getD, e1]
    exact e2⟩
  refine PySem.call_dict_pairs (knd := mixKind X.prog X.w) (kvs := prs) (PySem.PairArg.tuple a _ _ vs) (I.ok.hd hc) ⟨pl, it⟩ ⟨by rw [l1, l2], fun j k v e => ?_⟩ (by rw [l2]; exact hz) fun h' tk hd' k => ?_
  · obtain ⟨_, q, e1, e2⟩ := hpr j k v e
    exact ⟨q, e1, e2⟩
  · have hm : (s.heap.objs.size == sysModules) = false := beq_eq_false_iff_ne.mpr (Nat.ne_of_gt I.big)
    have hlen : (mergeK [] kvs).length ≤ sizeLine := by
      refine Nat.le_trans (length_mergeK kvs []) ?_
      rw [List.length_nil, Nat.zero_add, rel.length, l1]
      exact hz
    have new : ObjOk X.prog X.w (upd H s.heap.objs.size (.dK (mergeK [] kvs))) h' s.heap.objs.size (.dK (mergeK [] kvs)) := ⟨hlen, hm, merged [] prs, KV.merge rel .nil, hd'⟩
    exact ⟨.ref s.heap.objs.size, _, I.laid (t' := tk) (fun b o e => k b o (by simp) e) (Nat.le_refl _) new, rfl, q _ (I.hok.fresh (Nat.le_refl _))⟩
theorem Lk.tupZ {K : Fg} {F H : Hp} {v : V} {ds : List D} (h : Lk K F H v (.tuple ds)) (q : Sub F H) (n : ds.all noInt = true) : ∃ a xs, v = .ref a ∧ SqZ K H a xs ∧ RpA K F xs ds := by
  generalize e : PyData.tuple ds = d at h
  cases h with
  | rp a =>
    subst e
    cases a with
    | tup a b =>
      rcases a with ⟨_, a⟩ | ⟨a, _⟩
      · rw [n] at a; cases a
      · exact ⟨_, _, rfl, a.mono q, b⟩
  | @mo p o m a b => cases m <;> cases e
theorem prs_noInt : ∀ {ds : List D} {ps : List (Key × D)}, prsOf ds = some ps → ds.all noInt = true
  | [], _, _ => rfl
  | d :: ds, ps, e => by
    simp only [prsOf] at e
    split at e
    · rename_i p ps' e1 e2
      rw [List.all_cons, prs_noInt e2, Bool.and_true]
      cases d <;> first | rfl | cases e1
    · cases e
/-- dict(x) of a list or a tuple of pairs -/
def fDictU : FA
  | [.list ds] => match prsOf ds with
    | some ps => some (.own (.K (dMerge [] ps)))
    | none => none
  | [.tuple ds] => match prsOf ds with
    | some ps => some (.own (.K (dMerge [] ps)))
    | none => none
  | _ => none
theorem calld_dictU (hc : X.calm = true) : CallD X (.type "dict") fDictU := by
  refine ⟨_, CallR.or (call_dictP hc) (call_dictZ hc), fun e F r s H vs ds z Q k l ef w => ?_⟩
  unfold fDictU at ef
  split at ef
  · rename_i ds
    split at ef
    · rename_i ps hp
      cases ef
      obtain ⟨v, rfl, lk⟩ := l.one
      obtain ⟨a, xs, rfl, h1, h2⟩ := lk.lst k.sub
      obtain ⟨as, kvs, rfl, q2, q3, q4⟩ := prs_read k.sub h2 hp
      obtain ⟨g1, g2⟩ := merge_ok (kvs := []) (ds := []) q3 q4 rfl .nil
      refine .inl ⟨a, as, kvs, rfl, .inl h1, q2, fun p hp => ?_⟩
      obtain ⟨f1, f2, f3⟩ := k.free hp
      exact w _ F _ (k.alloc hp) (Sub.refl F) (.own upd_same (.K g1 g2) f1 f2 f3 (k.nobox hp))
    · cases ef
  · rename_i ds
    split at ef
    · rename_i ps hp
      cases ef
      obtain ⟨v, rfl, lk⟩ := l.one
      obtain ⟨a, xs, rfl, h1, h2⟩ := lk.tupZ k.sub (prs_noInt hp)
      obtain ⟨as, kvs, rfl, q2, q3, q4⟩ := prs_read k.sub h2 hp
      obtain ⟨g1, g2⟩ := merge_ok (kvs := []) (ds := []) q3 q4 rfl .nil
      refine .inr ⟨a, as, kvs, rfl, h1, q2, fun p hp => ?_⟩
      obtain ⟨f1, f2, f3⟩ := k.free hp
      exact w _ F _ (k.alloc hp) (Sub.refl F) (.own upd_same (.K g1 g2) f1 f2 f3 (k.nobox hp))
    · cases ef
  · cases ef
def kDictU : List D → (R → Prop) → Prop
  | [.list ds], K => onO (prsOf ds) fun ps => K (.own (.K (dMerge [] ps)))
  | [.tuple ds], K => onO (prsOf ds) fun ps => K (.own (.K (dMerge [] ps)))
  | _, _ => False
def cDictU : CaK := ⟨fDictU, kDictU, fun ds K h => by
  unfold kDictU at h
  split at h
  · obtain ⟨ps, e, h2⟩ := onO.ex h
    exact ⟨_, by simp only [fDictU, e], h2⟩
  · obtain ⟨ps, e, h2⟩ := onO.ex h
    exact ⟨_, by simp only [fDictU, e], h2⟩
  · exact h.elim⟩
end
end DL
namespace PySem
namespace DLX
open PySem.W PySem.Calls PyProof.Rows PySem.HandSPX Builtin Builtin.ObjectAttr
/-- own classes, then the tail -/
def refsT (tl : List Value) : List Value → Bool
  | .ref _ :: r => refsT tl r
  | l => l == tl
abbrev keTail : List Value := [.type "KeyError", .type "LookupError", .type "Exception", .type "BaseException", .type "object"]
end DLX
end PySem
namespace DL
open PySem L2 PyProof.Rows
end DL
namespace DL
open PySem L2 PyProof.Rows
end DL
namespace DL
open PySem L2 PyProof.Rows
/-- an error: its class, its dict -/
inductive XdOk (K : Fg) (F : Hp) : Str → List (Str × D) → Value → Option Addr → Prop
  | non {C : Str} : XdOk K F C [] (.ref (He.ga K C)) none
  | som {C : Str} {dx : Addr} {gs : List (Str × V)} {fs : List (Str × D)} : F dx = some (.xd gs) → fs.map (·.1) = gs.map (·.1) → RpA K F (gs.map (·.2)) (fs.map (·.2)) → XdOk K F C fs (.ref (He.ga K C)) (some dx)
abbrev PoX := Str → List (Str × D) → Rho → Prop
def XW (K : Fg) (e : En) (F : Hp) (P : PoX) (W : WX) : Prop := ∀ C fs r' s' F' H' cls d, P C fs r' → Ok K e F' r' s' H' → Sub F F' → XdOk K F' C fs cls d → W cls d s' H'
theorem XW.mono {K : Fg} {e : En} {F G : Hp} {P : PoX} {W : WX} (h : XW K e F P W) (q : Sub F G) : XW K e G P W := fun C fs r' s' F' H' cls d a b c x => h C fs r' s' F' H' cls d a b (q.trans c) x
abbrev CtX := List Ar → (Str → List (Str × D) → Prop) → Prop
def spX (K : Fg) (n : Nat) (c : CtX) : List V → Hp → XK → Prop := fun vs H E => ∃ F as, vs.length = n ∧ Sub F H ∧ ArsOk K F H as vs ∧ Apart as vs ∧ ∃ P, c as P ∧ ∀ C fs cls d F' H', P C fs → Did K F H as vs F' H' as → XdOk K F' C fs cls d → E cls d H'
structure FnX (P : Program) (w : World) (K : Fg) (mg : Str → Option Value) (base : Heap) (k : Nat) (f : Addr) (fd : FuncData) (ps : List Str) (c : CtX) : Prop where
  run : ∀ (A : Around) (outer : List Env) (s : Shared) (H : Hp) (args : Args) (us : List Value) (vs : List V) (E : XK), Room k A → A.guards = some [] → Env0 P w K mg base A outer s H → BindsTo s fd args (ps.zip us) → Vals vs us → spX K ps.length c vs H E →
    codeAny (model P w) A (.call (.ref f) args) (CR (L2.CX P w) outer P w H s (fun _ _ => False) E) s
theorem FnX.mono {P : Program} {w : World} {K : Fg} {mg : Str → Option Value} {base : Heap} {j k : Nat} {f : Addr} {fd : FuncData} {ps : List Str} {c : CtX} (F : FnX P w K mg base j f fd ps c) (h : j ≤ k) : FnX P w K mg base k f fd ps c :=
  ⟨fun A outer s H args us vs E hr => F.run A outer s H args us vs E (hr.mono h)⟩
theorem FnX.imp {P : Program} {w : World} {K : Fg} {mg : Str → Option Value} {base : Heap} {k : Nat} {f : Addr} {fd : FuncData} {ps : List Str} {c c' : CtX} (F : FnX P w K mg base k f fd ps c) (h : ∀ as P, c' as P → c as P) : FnX P w K mg base k f fd ps c' :=
  ⟨fun A outer s H args us vs E hr hg he hb hv ⟨G, as, h1, h2, h3, h4, P, h5, h6⟩ => F.run A outer s H args us vs E hr hg he hb hv ⟨G, as, h1, h2, h3, h4, P, h _ _ h5, h6⟩⟩
end DL
namespace DL
open PySem L2 PyProof.Rows
/-- the module's name x is a def that raises as the contract c tells -/
structure DefX (P : Program) (w : World) (K : Fg) (mg : Str → Option Value) (base : Heap) (k : Nat) (x : Str) (n : Nat) (ks : List Str) (G : List R → List R → List R) (c : CtX) : Prop where
  ex : ∃ f fd ps, mg x = some (.ref f) ∧ PySem.W.keepIn K (.ref f) = true ∧ FnX P w K mg base k f fd ps c ∧ Bd K fd ps n ks G
theorem DefX.of {P : Program} {w : World} {K : Fg} {mg : Str → Option Value} {base : Heap} {k n : Nat} {x : Str} {ks ps : List Str} {G : List R → List R → List R} {c : CtX} {f : Addr} {fd : FuncData} (hm : mg x = some (.ref f)) (hk : PySem.W.keepIn K (.ref f) = true) (F : FnX P w K mg base k f fd ps c) (hb : Bd K fd ps n ks G) : DefX P w K mg base k x n ks G c := ⟨⟨f, fd, ps, hm, hk, F, hb⟩⟩
end DL
namespace DL
open PySem L2 PyProof.Rows
abbrev clsV (K : Fg) (xs : List Str) : List Value := xs.map fun x => .ref (He.ga K x)
end DL
namespace DL
open PySem L2 PyProof.Rows
end DL
namespace DL
open PySem L2 PyProof.Rows
theorem XdOk.ob {K : Fg} {F : Hp} {a : Addr} {C : Str} {fs : List (Str × D)} {cls : Value} {d : Option Addr} (h : XdOk K F C fs cls d) (hF : F a = none) : cls = .ref (He.ga K C) ∧ ObOk K (upd F a (ExcO a (He.ga K C) d)) (.ref a) (.exc C fs) := by
  cases h with
  | non => exact ⟨rfl, .exc0 upd_same⟩
  | som h1 h2 h3 => exact ⟨rfl, .exc upd_same (by rw [upd_ne (ne_of_none h1 hF)]; exact h1) h2 (h3.mono (Sub.new hF))⟩
end DL
namespace DL
open PySem L2 PyProof.Rows
/-- facts of classes of errors: a maker with its own __init__ (over ValueError or KeyError), one without, an error's kind, isinstance, an except clause, a base's __init__ -/
inductive XF where
  | mk1 (x f : Str) (ve : Bool) | mk0 (x : Str) (b : Nat) | kin (x : Str) | isA (x : Str) (ys : List Str) (b : Bool) | is1 (x y : Str) (b : Bool) | cat (x : Str) (ys : List Str) | base (x : Str) (ve : Bool) | fld (x f : Str) | isB (x : Str) (T : String) (b : Bool)
def xcB (K : Fg) (C : Addr) (tl : List Value) (newId : String) : Bool := (match K.lookup C with
  | some ⟨.type c, _, .cls cd, sl⟩ => (match cd.mro, sl.toList with
    | .ref C' :: bm, [_, _, _, _, some (.builtin n), _] => decide (c = "type") && (decide (C' = C) && (DLX.refsT tl bm && (cd.hasDict && (!cd.hasDel && decide (n = newId)))))
    | _, _ => false)
  | _ => false) && (decide (PySem.W.findIn K (.ref C) "__setattr__" = some (some (.builtin "object.__setattr__"))) && (decide (PySem.W.subIn K (.ref C) (.type "BaseException") = some true) && (decide (PySem.W.typeIn K (.ref C) = some (.type "type")) && PySem.W.keepIn K (.ref C))))
def excCB (K : Fg) (C : Addr) : Bool := decide (PySem.W.findIn K (.ref C) "__getattribute__" = some (some (.builtin "BaseException.__getattribute__"))) && (decide (PySem.W.findIn K (.ref C) "__getattr__" = some none) && (decide (PySem.W.subIn K (.ref C) (.type "BaseException") = some true) && (PySem.W.hasDictIn K C &&
  (decide (PySem.W.findIn K (.ref C) "__class__" = some (some (.builtin "object.__class__"))) && (decide (PySem.W.specialIn K (.builtin "object.__class__") "__get__" = some (some (.builtin "getset_descriptor.__get__"))) && (decide (PySem.W.takesIn K (.builtin "object.__class__") = some true) && decide (PySem.W.mroIn K C (.type "object") = some true)))))))
def xbN : Nat → String × String × List Value
  | 0 => ("ValueError.__new__", "ValueError.__init__", [.type "ValueError", .type "Exception", .type "BaseException", .type "object"])
  | 1 => ("LookupError.__new__", "LookupError.__init__", [.type "LookupError", .type "Exception", .type "BaseException", .type "object"])
  | 2 => ("IndexError.__new__", "IndexError.__init__", [.type "IndexError", .type "LookupError", .type "Exception", .type "BaseException", .type "object"])
  | _ => ("RuntimeError.__new__", "RuntimeError.__init__", [.type "RuntimeError", .type "Exception", .type "BaseException", .type "object"])
def initB (o : Option PySem.W.CFound) (n : String) : Bool := match o with
  | some (.val (.builtin m)) => decide (m = n)
  | _ => false
def XF.ok (K : Fg) : XF → Bool
  | .mk1 x f ve => xcB K (He.ga K x) (if ve then HandSPX.veTail else DLX.keTail) (if ve then "ValueError.__new__" else "LookupError.__new__") && (decide (PySem.W.findIn K (.ref (He.ga K x)) f = some none) &&
      (decide (PySem.W.findIn K (.ref (He.ga K x)) "__init__" = some (some (.ref (He.ma K (He.ga K x) "__init__")))) && decide (PySem.W.typeIn K (.ref (He.ma K (He.ga K x) "__init__")) = some (.type "function"))))
  | .mk0 x b => PySem.W.excIn K (He.ga K x) (xbN b).2.2 (xbN b).1 && (PySem.W.keepIn K (.ref (He.ga K x)) && (decide (PySem.W.subIn K (.ref (He.ga K x)) (.type "BaseException") = some true) && decide (PySem.W.typeIn K (.ref (He.ga K x)) = some (.type "type"))))
  | .kin x => excCB K (He.ga K x)
  | .isA x ys b => decide (PySem.W.kitAny K (.ref (He.ga K x)) (clsV K ys) = some b)
  | .is1 x y b => decide (PySem.W.kitOne K (.ref (He.ga K x)) (.ref (He.ga K y)) = some b)
  | .cat x ys => decide (PySem.W.exmAny K (.ref (He.ga K x)) (clsV K ys) = some true)
  | .base x ve => if ve then PySem.W.readsIn K (He.ga K x) (.type "type") && (decide (PySem.W.specialIn K (.ref (He.ga K x)) "__getattribute__" = some (some (.builtin "type.__getattribute__"))) && initB (PySem.W.findCls K (.ref (He.ga K x)) (.type "type") "__init__") "ValueError.__init__")
      else initB (PySem.W.findCls K (.type "KeyError") (.type "type") "__init__") "KeyError.__init__"
  | .fld x f => xfB K (He.ga K x) && decide (PySem.W.findIn K (.ref (He.ga K x)) f = some none)
  | .isB x T b => decide (PySem.W.kitOne K (.ref (He.ga K x)) (.type T) = some b)
abbrev AlY : Type := AlX × Bool
def obsY (fa : List He.Fa) (fn : List He.DefD) (cs : List (Str × D)) (ts : List (Str × Tab)) (xs : List XF) (K : Fg) : AlY := (obsX fa fn cs ts K, xs.all fun f => f.ok K)
def valY (fn : List He.DefD) (ts : List (Str × Tab)) (w : World) : AlY := (valX fn ts w, true)
def SaysY (fa : List He.Fa) (fn : List He.DefD) (cs : List (Str × D)) (ts : List (Str × Tab)) (xs : List XF) (w : World) (K : Fg) : Prop := obsY fa fn cs ts xs K = valY fn ts w
section
variable {fa : List He.Fa} {fn : List He.DefD} {cs : List (Str × D)} {ts : List (Str × Tab)} {xs : List XF} {w : World} {K : Fg}
theorem SaysY.f (c : SaysY fa fn cs ts xs w K) (i : Nat) {f : XF} (e : xs[i]? = some f := by rfl) : f.ok K = true := by
  have c1 : (xs.all fun f => f.ok K) = true := congrArg (fun z : AlY => z.2) c
  exact List.all_eq_true.mp c1 _ (List.mem_of_getElem? e)
end
end DL
namespace DL
open PySem L2 PyProof.Rows
theorem all_cons {α : Type} {p : α → Prop} {a : α} {l : List α} (h : p a) (t : ∀ x ∈ l, p x) : ∀ x ∈ a :: l, p x := fun x hx => by
  rcases List.mem_cons.mp hx with e | hx
  · subst e; exact h
  · exact t x hx
end DL
namespace DL
open PySem PySem.Spec L2 PyProof.Rows
theorem tuple_mulW1 (l : Addr) (items : Array Value) (n : Nat) (dd : Option Addr) (sl : Array (Option Value)) (x : Int) (u : Tok) (c0 : (decide (x < -(2 ^ 63)) || decide (x ≥ 2 ^ 63)) = false) (c1 : (items.isEmpty || x == 1) = true) :
    Meets (Builtin.«tuple.__mul__» ⟨[.ref l, .int x u], []⟩) (fun _ R s => s.heap.get? l = some { cls := .type "tuple", dict := dd, data := .seq items n, slots := sl } ∧ R (.ok (.ret (Value.ref l))) s) :=
  .of_wp fun prog w A R s h => by
    obtain ⟨hp, g, d, tk, os⟩ := s
    obtain ⟨hl, h⟩ := h
    have f1 := AutoSeq1.idx_int
    wp_walk using wpAny_loadPart' hl
    repeat (first
      | (refine wpAny_ite_false (decide_eq_false (by rw [c0]; exact Bool.false_ne_true)) ?_; wp_walk using wpAny_loadPart' hl)
      | (refine wpAny_ite_true (decide_eq_true c1) ?_; wp_walk using wpAny_loadPart' hl))
    exact ⟨_, rfl, h⟩
theorem tuple_mulW0 (l : Addr) (items : Array Value) (n : Nat) (dd : Option Addr) (sl : Array (Option Value)) (x : Int) (u : Tok) (c0 : (decide (x < -(2 ^ 63)) || decide (x ≥ 2 ^ 63)) = false) (c1 : (items.isEmpty || x == 1) = false) (c2 : (decide (x ≤ 0) || items.isEmpty) = true) :
    Meets (Builtin.«tuple.__mul__» ⟨[.ref l, .int x u], []⟩) (fun _ R s => s.heap.get? l = some { cls := .type "tuple", dict := dd, data := .seq items n, slots := sl } ∧
      R (.ok (.ret (Value.ref s.heap.objs.size))) { s with heap := s.heap.push { cls := Value.type "tuple", data := Data.seq #[] }, toks := s.toks }) :=
  .of_wp fun prog w A R s h => by
    obtain ⟨hp, g, d, tk, os⟩ := s
    obtain ⟨hl, h⟩ := h
    have f1 := AutoSeq1.idx_int
    wp_walk using wpAny_loadPart' hl
    repeat (first
      | (refine wpAny_ite_false (decide_eq_false (by rw [c0]; exact Bool.false_ne_true)) ?_; wp_walk using wpAny_loadPart' hl)
      | (refine wpAny_ite_false (decide_eq_false (by rw [c1]; exact Bool.false_ne_true)) ?_; wp_walk using wpAny_loadPart' hl)
      | (refine wpAny_ite_true (decide_eq_true c2) ?_; wp_walk using wpAny_loadPart' hl))
    exact ⟨_, rfl, h⟩
def rRepZ (K : Fg) : R2 := fun x y H Q => ∃ l k xs, x = .ref l ∧ y = .int k ∧ SqT K H l xs ∧ xs ≠ [] ∧ 0 ≤ k ∧ k ≤ 1000 ∧ xs.length ≤ 1000 ∧ (k = 1 → Q (.ref l) H) ∧ (k ≠ 1 → newT (List.replicate k.toNat xs).flatten H Q)
theorem op_repZ {X : Cx} : OpR X (binaryOp .Mult) (rRepZ X.K) := by
  intro pins s σ H x y v u Q I rx ry h
  obtain ⟨l, k, xs, rfl, rfl, hT, hne, h1, h2, hz, q1, q2⟩ := h
  cases rx
  obtain ⟨t, rfl⟩ := ry
  obtain ⟨its, r, ⟨⟨cls, dd, data, sl⟩, ho, hc, n, hd⟩, hs⟩ := I.tuple hT
  simp only at hc hd
  subst hc hd
  have hle : its.length = xs.length := r.length.symm
  have hn : its ≠ [] := fun e => hne (by
    rw [e] at hle
    exact List.eq_nil_of_length_eq_zero hle.symm)
  have hi : its.toArray.isEmpty = false := by
    cases its with
    | nil => exact absurd rfl hn
    | cons a b => rfl
  have hsz0 : its.toArray.size = xs.length := by rw [List.size_toArray, hle]
  have hm : ((its.toArray.size : Nat) : Int) * k ≤ 1000000 := by
    rw [hsz0]
    have a1 : ((xs.length : Nat) : Int) * k ≤ 1000 * k := Int.mul_le_mul_of_nonneg_right (by omega) (by omega)
    omega
  have flen : (List.replicate k.toNat its).flatten.length ≤ sizeLine := by
    rw [PyProof.Rows.lm_len_rep_flat, hle, sizeLine_eq]
    have a1 : k.toNat * xs.length ≤ 1000 * 1000 := Nat.mul_le_mul (by omega) hz
    omega
  have flen2 : (List.replicate k.toNat xs).flatten.length ≤ sizeLine := by
    rw [PyProof.Rows.lm_len_rep_flat, ← hle, ← PyProof.Rows.lm_len_rep_flat]; exact flen
  have c0 : (decide (k < -(2 ^ 63)) || decide (k ≥ 2 ^ 63)) = false := by
    rw [decide_eq_false (by omega), decide_eq_false (by omega)] <;> rfl
  refine wpAny_binaryOp_repeat_ref (T := "tuple") (U := "int") (by decide) ⟨_, ho, rfl⟩ (fun s' => typeIs_int s' k t) noFill_tuple_mul F.fills_int_mul F.slot_int_rmul repeat_tuple F.slot_int_index.lookup
    (call_meets F.slot_int_rmul (typeIs_int s k t) F.entry_int_rmul (F.args_int_rmul_2 _ _) (int_rmul_tuple k t l its.toArray n dd sl) ⟨ho, rfl, ⟨_, ho, rfl⟩, ?_⟩)
  by_cases k1 : k = 1
  · refine call_meets F.slot_tuple_mul ⟨_, ho, rfl⟩ F.entry_tuple_mul (F.args_tuple_mul_2 _ _) (tuple_mulW1 l its.toArray n dd sl k t c0 (by rw [hi, Bool.false_or]; exact beq_iff_eq.mpr k1)) ⟨ho, ?_⟩
    exact ⟨.ref l, H, I, rfl, q1 k1⟩
  · have c1 : (its.toArray.isEmpty || k == 1) = false := by
      rw [hi, Bool.false_or]
      exact beq_eq_false_iff_ne.mpr k1
    by_cases k0 : k = 0
    · refine call_meets F.slot_tuple_mul ⟨_, ho, rfl⟩ F.entry_tuple_mul (F.args_tuple_mul_2 _ _) (tuple_mulW0 l its.toArray n dd sl k t c0 c1 (by rw [hi, Bool.or_false]; exact decide_eq_true (by omega))) ⟨ho, ?_⟩
      subst k0
      exact ep_tup (its := []) (xs := []) I .nil (Nat.zero_le _) (q2 (by decide))
    · have c2 : (decide (k ≤ 0) || its.toArray.isEmpty) = false := by
        rw [hi, Bool.or_false]
        exact decide_eq_false (by omega)
      have c4 : Builtin.Tuple.tupleTooMany (((its.toArray.size : Nat) : Int) * k) = false := by
        unfold Builtin.Tuple.tupleTooMany
        rw [sizeLine_eq]
        exact decide_eq_false (by omega)
      refine call_meets F.slot_tuple_mul ⟨_, ho, rfl⟩ F.entry_tuple_mul (F.args_tuple_mul_2 _ _) (tuple_mulW l its.toArray n dd sl k t c0 c1 c2 (by omega) c4 (by rw [size_rep, List.size_toArray]; exact flen)) ⟨ho, ?_⟩
      rw [size_rep]
      exact ep_tup I (r.rep k.toNat) flen2 (q2 k1)
def fMulZ : F2
  | .tuple a, .int n => if a ≠ [] ∧ 0 ≤ n ∧ n ≤ 1000 ∧ a.length ≤ 1000 then some (.val (.tuple (List.replicate n.toNat a).flatten)) else none
  | _, _ => none
theorem opd_mulZ {X : Cx} : OpD X (binaryOp .Mult) fMulZ := by
  refine ⟨_, op_repZ, fun e F r s H v1 v2 d1 d2 z Q k l1 l2 ef w => ?_⟩
  unfold fMulZ at ef
  split at ef
  · split at ef
    · rename_i hz; cases ef
      obtain ⟨a, xs, e1, h1, r1, p1⟩ := l1.tup k.sub
      refine ⟨a, _, xs, e1, l2.int, h1, r1.ne hz.1, hz.2.1, hz.2.2.1, by rw [r1.length]; exact hz.2.2.2, fun q => ?_, fun _ p o hp hd => ?_⟩
      · subst e1
        have e : ∀ l : List D, (List.replicate (1 : Int).toNat l).flatten = l := fun l => by simp
        rw [q, e] at w
        exact w _ F H k (Sub.refl F) (.val p1)
      · exact w _ _ _ (k.lay hp) (Sub.new (k.free hp).1) (.newT k hp hd (r1.rep _))
    · cases ef
  · cases ef
def kMulZ : D → D → (R → Prop) → Prop
  | .tuple a, .int n, K => Rq (a ≠ [] ∧ 0 ≤ n ∧ n ≤ 1000 ∧ a.length ≤ 1000) (K (.val (.tuple (List.replicate n.toNat a).flatten)))
  | _, _, _ => False
def oMulZ : OpK := ⟨fMulZ, kMulZ, fun d1 d2 K h => by
  cases d1 <;> cases d2 <;> first
    | exact h.elim
    | exact ⟨_, rq_if h, Rq.a h⟩⟩
end DL
namespace L04
open PySem L2 PyProof.Rows DL
def top (i : Nat) : Stmt := PySem.Challenge.pw_smallreaders_k04_books_known.main.body.getD i (.Pass ⟨0, 0, 0, 0⟩)
def tab_FORMS : Tab := [("nothing", ""), ("never", ""), ("sign", "s"), ("but", "b"), ("row", "p"), ("choice", "p"), ("many", "r"), ("maybe", "r"), ("ahead", "r"), ("not", "r"), ("name", "n"), ("hold", "nr"), ("again", "n"), ("tag", "nr"), ("make", "wr")]
abbrev s_is_text : Stmt := top 6
abbrev s_is_signs : Stmt := top 7
abbrev s_is_name : Stmt := top 8
abbrev s_is_piece : Stmt := top 15
abbrev s_is_formed : Stmt := top 16
abbrev s_is_reader : Stmt := top 17
abbrev s_within : Stmt := top 18
abbrev s_all_within : Stmt := top 19
abbrev s_are_named : Stmt := top 24
abbrev s_is_right : Stmt := top 25
abbrev s_first_wrong : Stmt := top 26
abbrev s_parts_of : Stmt := top 27
abbrev s_is_book : Stmt := top 28
abbrev s__law_draw : Stmt := top 30
abbrev s__law_all : Stmt := top 31
abbrev s__law_signs : Stmt := top 32
abbrev s__law_names : Stmt := top 33
abbrev s__law_leaf : Stmt := top 34
abbrev s__law_reader : Stmt := top 35
abbrev s__law_book : Stmt := top 36
abbrev s__law_is_signs : Stmt := top 37
abbrev s__law_named : Stmt := top 38
abbrev s__law_is_reader : Stmt := top 39
abbrev s__law_inner : Stmt := top 40
abbrev s__law_parts : Stmt := top 41
abbrev s__law_odd : Stmt := top 42
abbrev s__law_bent : Stmt := top 43
abbrev s__law_is_book : Stmt := top 44
abbrev s__law_spoilt : Stmt := top 45
abbrev s_law : Stmt := top 46
end L04
namespace L04H
open PySem L2 PyProof.Rows DL L04
def fn : List He.DefD := [⟨("is_text", none), "is_text", "is_text", defArgs s_is_text, defBody s_is_text, defScope s_is_text, [], [("most", .int (60))]⟩, ⟨("is_signs", none), "is_signs", "is_signs", defArgs s_is_signs, defBody s_is_signs, defScope s_is_signs, [], [("least", .int (0))]⟩, ⟨("is_name", none), "is_name", "is_name", defArgs s_is_name, defBody s_is_name, defScope s_is_name, [], []⟩, ⟨("is_piece", none), "is_piece", "is_piece", defArgs s_is_piece, defBody s_is_piece, defScope s_is_piece, [], []⟩, ⟨("is_formed", none), "is_formed", "is_formed", defArgs s_is_formed, defBody s_is_formed, defScope s_is_formed, [], []⟩, ⟨("is_reader", none), "is_reader", "is_reader", defArgs s_is_reader, defBody s_is_reader, defScope s_is_reader, [], []⟩, ⟨("within", none), "within", "within", defArgs s_within, defBody s_within, defScope s_within, [], []⟩, ⟨("all_within", none), "all_within", "all_within", defArgs s_all_within, defBody s_all_within, defScope s_all_within, [], []⟩, ⟨("are_named", none), "are_named", "are_named", defArgs s_are_named, defBody s_are_named, defScope s_are_named, [], []⟩, ⟨("is_right", none), "is_right", "is_right", defArgs s_is_right, defBody s_is_right, defScope s_is_right, [], []⟩, ⟨("first_wrong", none), "first_wrong", "first_wrong", defArgs s_first_wrong, defBody s_first_wrong, defScope s_first_wrong, [], []⟩, ⟨("parts_of", none), "parts_of", "parts_of", defArgs s_parts_of, defBody s_parts_of, defScope s_parts_of, [], []⟩, ⟨("is_book", none), "is_book", "is_book", defArgs s_is_book, defBody s_is_book, defScope s_is_book, [], []⟩, ⟨("_law_draw", none), "_law_draw", "_law_draw", defArgs s__law_draw, defBody s__law_draw, defScope s__law_draw, [], []⟩, ⟨("_law_all", none), "_law_all", "_law_all", defArgs s__law_all, defBody s__law_all, defScope s__law_all, [], []⟩, ⟨("_law_signs", none), "_law_signs", "_law_signs", defArgs s__law_signs, defBody s__law_signs, defScope s__law_signs, [], []⟩, ⟨("_law_names", none), "_law_names", "_law_names", defArgs s__law_names, defBody s__law_names, defScope s__law_names, [], []⟩, ⟨("_law_leaf", none), "_law_leaf", "_law_leaf", defArgs s__law_leaf, defBody s__law_leaf, defScope s__law_leaf, [], []⟩, ⟨("_law_reader", none), "_law_reader", "_law_reader", defArgs s__law_reader, defBody s__law_reader, defScope s__law_reader, [], []⟩, ⟨("_law_book", none), "_law_book", "_law_book", defArgs s__law_book, defBody s__law_book, defScope s__law_book, [], []⟩, ⟨("_law_is_signs", none), "_law_is_signs", "_law_is_signs", defArgs s__law_is_signs, defBody s__law_is_signs, defScope s__law_is_signs, [], []⟩, ⟨("_law_named", none), "_law_named", "_law_named", defArgs s__law_named, defBody s__law_named, defScope s__law_named, [], []⟩, ⟨("_law_is_reader", none), "_law_is_reader", "_law_is_reader", defArgs s__law_is_reader, defBody s__law_is_reader, defScope s__law_is_reader, [], []⟩, ⟨("_law_inner", none), "_law_inner", "_law_inner", defArgs s__law_inner, defBody s__law_inner, defScope s__law_inner, [], []⟩, ⟨("_law_parts", none), "_law_parts", "_law_parts", defArgs s__law_parts, defBody s__law_parts, defScope s__law_parts, [], []⟩, ⟨("_law_odd", none), "_law_odd", "_law_odd", defArgs s__law_odd, defBody s__law_odd, defScope s__law_odd, [], []⟩, ⟨("_law_bent", none), "_law_bent", "_law_bent", defArgs s__law_bent, defBody s__law_bent, defScope s__law_bent, [], []⟩, ⟨("_law_is_book", none), "_law_is_book", "_law_is_book", defArgs s__law_is_book, defBody s__law_is_book, defScope s__law_is_book, [], []⟩, ⟨("_law_spoilt", none), "_law_spoilt", "_law_spoilt", defArgs s__law_spoilt, defBody s__law_spoilt, defScope s__law_spoilt, [], []⟩, ⟨("law", none), "law", "law", defArgs s_law, defBody s_law, defScope s_law, [], []⟩]
def fa : List He.Fa := [.glo "is_text", .glo "is_signs", .glo "is_name", .glo "is_piece", .glo "is_formed", .glo "is_reader", .glo "within", .glo "all_within", .glo "are_named", .glo "is_right", .glo "first_wrong", .glo "parts_of", .glo "is_book", .glo "_law_draw", .glo "_law_all", .glo "_law_signs", .glo "_law_names", .glo "_law_leaf", .glo "_law_reader", .glo "_law_book", .glo "_law_is_signs", .glo "_law_named", .glo "_law_is_reader", .glo "_law_inner", .glo "_law_parts", .glo "_law_odd", .glo "_law_bent", .glo "_law_is_book", .glo "_law_spoilt", .glo "law", .free "abs", .free "all", .free "dict", .free "int", .free "isinstance", .free "len", .free "list", .free "min", .free "range", .free "repr", .free "set", .free "str", .free "tuple", .free "zip"]
def cs : List (Str × D) := [("SIGNS", .str ("\n !\"#$&'()*+,-./0123456789:;<=>?@ABCDEFGHIJKLMNOPQRSTUVWXYZ[\\]^_`abcdefghijklmnopqrstuvwxyz{|}~" : Str)), ("LETTERS", .str ("abcdefghijklmnopqrstuvwxyz" : Str)), ("MOST_LETTERS", .int 8), ("MOST_SIGNS", .int 94), ("MOST_TEXT", .int 60), ("MOST_DEEP", .int 8), ("LEAST_PARTS", .int 2), ("MOST_PARTS_readers", .int 6), ("MAKES", .tuple [.str ("text" : Str), .str ("drop" : Str), .str ("count" : Str), .str ("number" : Str)]), ("MOST_NAMES", .int 8), ("MOST_PARTS_books", .int 80), ("CALLS", .str ("name" : Str))]
def ts : List (Str × Tab) := [("FORMS", tab_FORMS)]
abbrev R : PySem.W.OpenRow := PySem.W.OpenLaw.row PySem.Challenge.rw_smallreaders_k04_books_known
abbrev hk : PySem.W.Hook := hookX 4 fa fn cs ts
def ob (s : PySem.W.SharedT) : AlX := obsXG 4 fa fn cs ts (HandSHeadRun.getT s)
theorem ob_eq (s : PySem.W.SharedT) : ob s = hk.obs s.abs := obsXG_eq (HandSHeadRun.getT_eq s)
def loose : List Str := (["SIGNS", "LETTERS", "MOST_LETTERS", "MOST_SIGNS", "MOST_TEXT", "is_text", "is_signs", "is_name", "MOST_DEEP", "LEAST_PARTS", "MOST_PARTS_readers", "MAKES", "FORMS", "is_piece", "is_formed", "is_reader", "within", "all_within", "MOST_NAMES", "MOST_PARTS_books", "CALLS", "are_named", "is_right", "first_wrong", "parts_of", "is_book", "_law_draw", "_law_all", "_law_signs", "_law_names"] : List Str) ++ (["_law_leaf", "_law_reader", "_law_book", "_law_is_signs", "_law_named", "_law_is_reader", "_law_inner", "_law_parts", "_law_odd", "_law_bent", "_law_is_book", "_law_spoilt"] : List Str)
theorem run (w : World) : HandSHeadRun.RunEq R (PySem.W.view R.prog [46]) hk ob 6000 loose w := by
  refine PySem.W.byRow2 "special-get-raises" (P := fun w => HandSHeadRun.RunEq R (PySem.W.view R.prog [46]) hk ob 6000 loose w) (fun w => ?_) (fun w => ?_) w
  · intro os
    kernel_rfl
  · intro os
    kernel_rfl
end L04H
namespace L04
open PySem L2 PyProof.Rows DL
/-- what the module says -/
structure Gb (w : World) (K : Fg) (mg : Str → Option Value) : Prop where
  b_abs : mg "abs" = none
  b_all : mg "all" = none
  b_dict : mg "dict" = none
  b_int : mg "int" = none
  b_isinstance : mg "isinstance" = none
  b_len : mg "len" = none
  b_list : mg "list" = none
  b_min : mg "min" = none
  b_range : mg "range" = none
  b_repr : mg "repr" = none
  b_set : mg "set" = none
  b_str : mg "str" = none
  b_tuple : mg "tuple" = none
  b_zip : mg "zip" = none
  c_SIGNS : Con K mg "SIGNS" (.str ("\n !\"#$&'()*+,-./0123456789:;<=>?@ABCDEFGHIJKLMNOPQRSTUVWXYZ[\\]^_`abcdefghijklmnopqrstuvwxyz{|}~" : Str))
  c_LETTERS : Con K mg "LETTERS" (.str ("abcdefghijklmnopqrstuvwxyz" : Str))
  c_MOST_LETTERS : Con K mg "MOST_LETTERS" (.int 8)
  c_MOST_SIGNS : Con K mg "MOST_SIGNS" (.int 94)
  c_MOST_TEXT : Con K mg "MOST_TEXT" (.int 60)
  c_MOST_DEEP : Con K mg "MOST_DEEP" (.int 8)
  c_LEAST_PARTS : Con K mg "LEAST_PARTS" (.int 2)
  c_MOST_PARTS_readers : Con K mg "MOST_PARTS_readers" (.int 6)
  c_MAKES : Con K mg "MAKES" (.tuple [.str ("text" : Str), .str ("drop" : Str), .str ("count" : Str), .str ("number" : Str)])
  c_MOST_NAMES : Con K mg "MOST_NAMES" (.int 8)
  c_MOST_PARTS_books : Con K mg "MOST_PARTS_books" (.int 80)
  c_CALLS : Con K mg "CALLS" (.str ("name" : Str))
  t_FORMS : TabAt w K mg "FORMS" tab_FORMS
def N_is_text : List Str := ["thing", "most", "sign"]
theorem sc_is_text : FnScope N_is_text ["thing", "most"] (defScope s_is_text) := ⟨rfl, rfl, rfl, by decide +kernel, rfl, by decide +kernel, by decide +kernel⟩
def m_is_text_0 : MS :=
  sRet (mAnd (mIsI "str" (mVar 0)) (mAnd (mOp oLe (mSel 0 (mDLen 0) (mCall cLen (aCons (mVar 0) (aNil)))) (mVar 1)) (mCall cAll (aCons (mLc [2] (iOf (mVar 0)) (gNm 2) (bYes) (mOp oIn (mVar 2) (mVal (.str ("\n !\"#$&'()*+,-./0123456789:;<=>?@ABCDEFGHIJKLMNOPQRSTUVWXYZ[\\]^_`abcdefghijklmnopqrstuvwxyz{|}~" : Str))))) (aNil)))))
def m_is_text : MS := m_is_text_0
def mi_is_text : MS :=
  sRet (mAnd (mIsI "str" (mVar 0)) (mAnd (mOp oLe (mSel 0 (mDLen 0) (mCall cLen (aCons (mVar 0) (aNil)))) (mVar 1)) (mCall cAll (aCons (mLc [2] (iOf (mVar 0)) (gNm 2) (bYes) (mOp oIn (mVar 2) (mVal (.str ("\n !\"#$&'()*+,-./0123456789:;<=>?@ABCDEFGHIJKLMNOPQRSTUVWXYZ[\\]^_`abcdefghijklmnopqrstuvwxyz{|}~" : Str))))) (aNil)))))
theorem me_is_text : mi_is_text = m_is_text := by rfl
theorem d_is_text {P : Program} {w : World} {K : Fg} {mg : Str → Option Value} {base : Heap} {f : Addr} {cdv : Value} {A : Around} {outer : List Env} {s : Shared} {H : Hp} {E : XK} {k : Nat} (g : Gb w K mg)
    (hr : Room k (A.deeper (envOfC "is_text" (defScope s_is_text) s.heap.objs.size f cdv))) (hgu : A.guards = some []) :
    DSs (cxOf CX0 P w K mg base N_is_text "is_text" (defScope s_is_text) f cdv A outer s H E).nox (defBody s_is_text) (m_is_text) :=
  have nd := sc_is_text.nd
  have h : DSs (cxOf CX0 P w K mg base N_is_text "is_text" (defScope s_is_text) f cdv A outer s H E).nox (defBody s_is_text) (mi_is_text) :=
  (dss_one (ds_ret (de_and (de_isinst (T := "str") kit_str (by rfl) g.b_isinstance (by rfl) (by rfl) g.b_str (by rfl) (dv 0)) (de_and (dec opd_le (de_sel (de_dlen (i := 0) (by rfl) g.b_len (by rfl) (by first | exact .inl rfl | exact .inr (.inl rfl) | exact .inr (.inr rfl))) (de_callB calld_len (by rfl) g.b_len (by rfl) (da_cons (dv 0) (da_nil)))) (dv 1)) (de_one (de_callB (calld_all (by rfl)) (by rfl) g.b_all (by rfl) (da_cons (de_lc (own := [(("sign" : Str), 2)]) (by rfl) nd (di_of (dv 0)) (blkOk_by (N := N_is_text) (sc := defScope s_is_text) (own := [(("sign" : Str), 2)]) (by decide +kernel)) (fun _ _ _ _ _ => dgn 2 nd) (fun _ _ _ _ _ => dts_nil) (fun _ _ _ _ _ => dec (opd_in (u65 hr)) (dv 2) (de_con g.c_SIGNS (by rfl)))) (da_nil))))))))
  me_is_text ▸ h
def N_is_signs : List Str := ["thing", "least", "sign", "later"]
theorem sc_is_signs : FnScope N_is_signs ["thing", "least"] (defScope s_is_signs) := ⟨rfl, rfl, rfl, by decide +kernel, rfl, by decide +kernel, by decide +kernel⟩
def m_is_signs_0 (c_is_text : Ct) : MS :=
  sRet (mCall cAll (aCons (mLc [2, 3] (iZip (mVar 0) (mSl (mVar 0) (oSome (mVal (.int 1))) (oNone))) (gTp 2 (gCs (gNm 2) (gCs (gNm 3) (gNl)))) (bYes) (mOp oLt (mVar 2) (mVar 3))) (aNil)))
def m_is_signs_1 (c_is_text : Ct) : MS :=
  sSeq (sIf (bOr (bNot (mTru (mFnK c_is_text (pick [(false, 0), (true, 0)]) 1 1 (aCons (mVar 0) (aNil)) (aCons (mVal (.int 94)) (aNil))))) (mTest (mOp oLt (mCall cLen (aCons (mVar 0) (aNil))) (mVar 1)))) (sRet (mVal (.bool false))) (sNext))
  (m_is_signs_0 c_is_text)
def m_is_signs (c_is_text : Ct) : MS := m_is_signs_1 c_is_text
def mi_is_signs (c_is_text : Ct) : MS :=
  sSeq (sIf (bOr (bNot (mTru (mFnK c_is_text (pick [(false, 0), (true, 0)]) 1 1 (aCons (mVar 0) (aNil)) (aCons (mVal (.int 94)) (aNil))))) (mTest (mOp oLt (mCall cLen (aCons (mVar 0) (aNil))) (mVar 1)))) (sRet (mVal (.bool false))) (sNext))
  (sRet (mCall cAll (aCons (mLc [2, 3] (iZip (mVar 0) (mSl (mVar 0) (oSome (mVal (.int 1))) (oNone))) (gTp 2 (gCs (gNm 2) (gCs (gNm 3) (gNl)))) (bYes) (mOp oLt (mVar 2) (mVar 3))) (aNil))))
theorem me_is_signs (c_is_text : Ct) : mi_is_signs c_is_text = m_is_signs c_is_text := by rfl
theorem d_is_signs {P : Program} {w : World} {K : Fg} {mg : Str → Option Value} {base : Heap} {f : Addr} {cdv : Value} {A : Around} {outer : List Env} {s : Shared} {H : Hp} {E : XK} {k : Nat} {c_is_text : Ct} (g : Gb w K mg)
    (h_is_text_1_most : Def P w K mg base k "is_text" 1 ["most"] (pick [(false, 0), (true, 0)]) c_is_text)
    (hr : Room k (A.deeper (envOfC "is_signs" (defScope s_is_signs) s.heap.objs.size f cdv))) (hgu : A.guards = some []) :
    DSs (cxOf CX0 P w K mg base N_is_signs "is_signs" (defScope s_is_signs) f cdv A outer s H E).nox (defBody s_is_signs) (m_is_signs c_is_text) :=
  have nd := sc_is_signs.nd
  have h : DSs (cxOf CX0 P w K mg base N_is_signs "is_signs" (defScope s_is_signs) f cdv A outer s H E).nox (defBody s_is_signs) (mi_is_signs c_is_text) :=
  (dss_cons (ds_if (dt_w (dw_or (dt_not (dt_of (de_defK (ks := ["most"]) h_is_text_1_most hr hgu (by rfl) (da_cons (dv 0) (da_nil)) (dk_cons (de_con g.c_MOST_SIGNS (by rfl)) (dk_nil))))) (dw_or1 (dtc opd_lt (de_callB calld_len (by rfl) g.b_len (by rfl) (da_cons (dv 0) (da_nil))) (dv 1))))) (dss_one (ds_ret (de_bl))) (dss_nil))
  (dss_one (ds_ret (de_callB (calld_all (by rfl)) (by rfl) g.b_all (by rfl) (da_cons (de_lc (own := [(("sign" : Str), 2), (("later" : Str), 3)]) (by rfl) nd (di_zip (by rfl) g.b_zip (dv 0) (de_slice (dv 0) (do_some (de_int)) (do_none))) (blkOk_by (N := N_is_signs) (sc := defScope s_is_signs) (own := [(("sign" : Str), 2), (("later" : Str), 3)]) (by decide +kernel)) (fun _ _ _ _ _ => dg_tup (by rfl) (dgs_cons (dgn 2 nd) (dgs_cons (dgn 3 nd) (dgs_nil)))) (fun _ _ _ _ _ => dts_nil) (fun _ _ _ _ _ => dec opd_lt (dv 2) (dv 3))) (da_nil))))))
  me_is_signs c_is_text ▸ h
def N_is_name : List Str := ["thing", "sign"]
theorem sc_is_name : FnScope N_is_name ["thing"] (defScope s_is_name) := ⟨rfl, rfl, rfl, by decide +kernel, rfl, by decide +kernel, by decide +kernel⟩
def m_is_name_0 : MS :=
  sRet (mCall cAll (aCons (mLc [1] (iOf (mVar 0)) (gNm 1) (bYes) (mOp oIn (mVar 1) (mVal (.str ("abcdefghijklmnopqrstuvwxyz" : Str))))) (aNil)))
def m_is_name_1 : MS :=
  sSeq (sIf (bOr (bNot (mTru (mIsI "str" (mVar 0)))) (bNot (mTest (mChain oLe oLe (mVal (.int 1)) (mSel 0 (mDLen 0) (mCall cLen (aCons (mVar 0) (aNil)))) (mVal (.int 8)))))) (sRet (mVal (.bool false))) (sNext))
  (m_is_name_0)
def m_is_name : MS := m_is_name_1
def mi_is_name : MS :=
  sSeq (sIf (bOr (bNot (mTru (mIsI "str" (mVar 0)))) (bNot (mTest (mChain oLe oLe (mVal (.int 1)) (mSel 0 (mDLen 0) (mCall cLen (aCons (mVar 0) (aNil)))) (mVal (.int 8)))))) (sRet (mVal (.bool false))) (sNext))
  (sRet (mCall cAll (aCons (mLc [1] (iOf (mVar 0)) (gNm 1) (bYes) (mOp oIn (mVar 1) (mVal (.str ("abcdefghijklmnopqrstuvwxyz" : Str))))) (aNil))))
theorem me_is_name : mi_is_name = m_is_name := by rfl
theorem d_is_name {P : Program} {w : World} {K : Fg} {mg : Str → Option Value} {base : Heap} {f : Addr} {cdv : Value} {A : Around} {outer : List Env} {s : Shared} {H : Hp} {E : XK} {k : Nat} (g : Gb w K mg)
    (hr : Room k (A.deeper (envOfC "is_name" (defScope s_is_name) s.heap.objs.size f cdv))) (hgu : A.guards = some []) :
    DSs (cxOf CX0 P w K mg base N_is_name "is_name" (defScope s_is_name) f cdv A outer s H E).nox (defBody s_is_name) (m_is_name) :=
  have nd := sc_is_name.nd
  have h : DSs (cxOf CX0 P w K mg base N_is_name "is_name" (defScope s_is_name) f cdv A outer s H E).nox (defBody s_is_name) (mi_is_name) :=
  (dss_cons (ds_if (dt_w (dw_or (dt_not (dt_of (de_isinst (T := "str") kit_str (by rfl) g.b_isinstance (by rfl) (by rfl) g.b_str (by rfl) (dv 0)))) (dw_or1 (dt_not (dt_chain opd_le opd_le (de_int) (de_sel (de_dlen (i := 0) (by rfl) g.b_len (by rfl) (by first | exact .inl rfl | exact .inr (.inl rfl) | exact .inr (.inr rfl))) (de_callB calld_len (by rfl) g.b_len (by rfl) (da_cons (dv 0) (da_nil)))) (de_con g.c_MOST_LETTERS (by rfl))))))) (dss_one (ds_ret (de_bl))) (dss_nil))
  (dss_one (ds_ret (de_callB (calld_all (by rfl)) (by rfl) g.b_all (by rfl) (da_cons (de_lc (own := [(("sign" : Str), 1)]) (by rfl) nd (di_of (dv 0)) (blkOk_by (N := N_is_name) (sc := defScope s_is_name) (own := [(("sign" : Str), 1)]) (by decide +kernel)) (fun _ _ _ _ _ => dgn 1 nd) (fun _ _ _ _ _ => dts_nil) (fun _ _ _ _ _ => dec (opd_in (u65 hr)) (dv 1) (de_con g.c_LETTERS (by rfl)))) (da_nil))))))
  me_is_name ▸ h
def N_is_piece : List Str := ["form", "thing", "left", "part"]
theorem sc_is_piece : FnScope N_is_piece ["form", "thing", "left"] (defScope s_is_piece) := ⟨rfl, rfl, rfl, by decide +kernel, rfl, by decide +kernel, by decide +kernel⟩
def m_is_piece_0 (c_is_signs : Ct) (c_is_name : Ct) (c_is_formed : Ct) : MS :=
  sRet (mFnK c_is_signs (pick [(false, 0), (true, 0)]) 1 1 (aCons (mVar 1) (aNil)) (aCons (mVal (.int 1)) (aNil)))
def m_is_piece_1 (c_is_signs : Ct) (c_is_name : Ct) (c_is_formed : Ct) : MS :=
  sRet (mFnK c_is_signs (fun xs zs => pick [(false, 0), (true, 0)] xs (zs ++ [.int 0].map R.val)) 1 0 (aCons (mVar 1) (aNil)) (aNil))
def m_is_piece_2 (c_is_signs : Ct) (c_is_name : Ct) (c_is_formed : Ct) : MS :=
  sRet (mFnK c_is_name (pick [(false, 0)]) 1 0 (aCons (mVar 1) (aNil)) (aNil))
def m_is_piece_3 (c_is_signs : Ct) (c_is_name : Ct) (c_is_formed : Ct) : MS :=
  sRet (mAnd (mIsI "str" (mVar 1)) (mOp oIn (mVar 1) (mVal (.tuple [.str ("text" : Str), .str ("drop" : Str), .str ("count" : Str), .str ("number" : Str)]))))
def m_is_piece_4 (c_is_signs : Ct) (c_is_name : Ct) (c_is_formed : Ct) : MS :=
  sRet (mFnK c_is_formed (pick [(false, 0), (false, 1)]) 2 0 (aCons (mVar 1) (aCons (mVar 2) (aNil))) (aNil))
def m_is_piece_5 (c_is_signs : Ct) (c_is_name : Ct) (c_is_formed : Ct) : MS :=
  sRet (mCall cAll (aCons (mLc [3] (iOf (mVar 1)) (gNm 3) (bYes) (mFnK c_is_formed (pick [(false, 0), (false, 1)]) 2 0 (aCons (mVar 3) (aCons (mVar 2) (aNil))) (aNil))) (aNil)))
def m_is_piece_6 (c_is_signs : Ct) (c_is_name : Ct) (c_is_formed : Ct) : MS :=
  sSeq (sIf (bOr (bNot (mTru (mIsI "tuple" (mVar 1)))) (bNot (mTest (mChain oLe oLe (mVal (.int 2)) (mSel 1 (mDLen 1) (mCall cLen (aCons (mVar 1) (aNil)))) (mVal (.int 6)))))) (sRet (mVal (.bool false))) (sNext))
  (m_is_piece_5 c_is_signs c_is_name c_is_formed)
def m_is_piece_7 (c_is_signs : Ct) (c_is_name : Ct) (c_is_formed : Ct) : MS :=
  sSeq (sIf (mTest (mOp oEq (mVar 0) (mVal (.str ("r" : Str))))) (m_is_piece_4 c_is_signs c_is_name c_is_formed) (sNext))
  (m_is_piece_6 c_is_signs c_is_name c_is_formed)
def m_is_piece_8 (c_is_signs : Ct) (c_is_name : Ct) (c_is_formed : Ct) : MS :=
  sSeq (sIf (mTest (mOp oEq (mVar 0) (mVal (.str ("w" : Str))))) (m_is_piece_3 c_is_signs c_is_name c_is_formed) (sNext))
  (m_is_piece_7 c_is_signs c_is_name c_is_formed)
def m_is_piece_9 (c_is_signs : Ct) (c_is_name : Ct) (c_is_formed : Ct) : MS :=
  sSeq (sIf (mTest (mOp oEq (mVar 0) (mVal (.str ("n" : Str))))) (m_is_piece_2 c_is_signs c_is_name c_is_formed) (sNext))
  (m_is_piece_8 c_is_signs c_is_name c_is_formed)
def m_is_piece_10 (c_is_signs : Ct) (c_is_name : Ct) (c_is_formed : Ct) : MS :=
  sSeq (sIf (mTest (mOp oEq (mVar 0) (mVal (.str ("b" : Str))))) (m_is_piece_1 c_is_signs c_is_name c_is_formed) (sNext))
  (m_is_piece_9 c_is_signs c_is_name c_is_formed)
def m_is_piece_11 (c_is_signs : Ct) (c_is_name : Ct) (c_is_formed : Ct) : MS :=
  sSeq (sIf (mTest (mOp oEq (mVar 0) (mVal (.str ("s" : Str))))) (m_is_piece_0 c_is_signs c_is_name c_is_formed) (sNext))
  (m_is_piece_10 c_is_signs c_is_name c_is_formed)
def m_is_piece (c_is_signs : Ct) (c_is_name : Ct) (c_is_formed : Ct) : MS := m_is_piece_11 c_is_signs c_is_name c_is_formed
def mi_is_piece (c_is_signs : Ct) (c_is_name : Ct) (c_is_formed : Ct) : MS :=
  sSeq (sIf (mTest (mOp oEq (mVar 0) (mVal (.str ("s" : Str))))) (sRet (mFnK c_is_signs (pick [(false, 0), (true, 0)]) 1 1 (aCons (mVar 1) (aNil)) (aCons (mVal (.int 1)) (aNil)))) (sNext))
  (sSeq (sIf (mTest (mOp oEq (mVar 0) (mVal (.str ("b" : Str))))) (sRet (mFnK c_is_signs (fun xs zs => pick [(false, 0), (true, 0)] xs (zs ++ [.int 0].map R.val)) 1 0 (aCons (mVar 1) (aNil)) (aNil))) (sNext))
  (sSeq (sIf (mTest (mOp oEq (mVar 0) (mVal (.str ("n" : Str))))) (sRet (mFnK c_is_name (pick [(false, 0)]) 1 0 (aCons (mVar 1) (aNil)) (aNil))) (sNext))
  (sSeq (sIf (mTest (mOp oEq (mVar 0) (mVal (.str ("w" : Str))))) (sRet (mAnd (mIsI "str" (mVar 1)) (mOp oIn (mVar 1) (mVal (.tuple [.str ("text" : Str), .str ("drop" : Str), .str ("count" : Str), .str ("number" : Str)]))))) (sNext))
  (sSeq (sIf (mTest (mOp oEq (mVar 0) (mVal (.str ("r" : Str))))) (sRet (mFnK c_is_formed (pick [(false, 0), (false, 1)]) 2 0 (aCons (mVar 1) (aCons (mVar 2) (aNil))) (aNil))) (sNext))
  (sSeq (sIf (bOr (bNot (mTru (mIsI "tuple" (mVar 1)))) (bNot (mTest (mChain oLe oLe (mVal (.int 2)) (mSel 1 (mDLen 1) (mCall cLen (aCons (mVar 1) (aNil)))) (mVal (.int 6)))))) (sRet (mVal (.bool false))) (sNext))
  (sRet (mCall cAll (aCons (mLc [3] (iOf (mVar 1)) (gNm 3) (bYes) (mFnK c_is_formed (pick [(false, 0), (false, 1)]) 2 0 (aCons (mVar 3) (aCons (mVar 2) (aNil))) (aNil))) (aNil)))))))))
theorem me_is_piece (c_is_signs : Ct) (c_is_name : Ct) (c_is_formed : Ct) : mi_is_piece c_is_signs c_is_name c_is_formed = m_is_piece c_is_signs c_is_name c_is_formed := by rfl
theorem d_is_piece {P : Program} {w : World} {K : Fg} {mg : Str → Option Value} {base : Heap} {f : Addr} {cdv : Value} {A : Around} {outer : List Env} {s : Shared} {H : Hp} {E : XK} {k : Nat} {c_is_signs c_is_name c_is_formed : Ct} (g : Gb w K mg)
    (h_is_signs_1_least : Def P w K mg base k "is_signs" 1 ["least"] (pick [(false, 0), (true, 0)]) c_is_signs)
    (h_is_signs_1 : Def P w K mg base k "is_signs" 1 [] (fun xs zs => pick [(false, 0), (true, 0)] xs (zs ++ [.int 0].map R.val)) c_is_signs)
    (h_is_name_1 : Def P w K mg base k "is_name" 1 [] (pick [(false, 0)]) c_is_name)
    (h_is_formed_2 : Def P w K mg base k "is_formed" 2 [] (pick [(false, 0), (false, 1)]) c_is_formed)
    (hr : Room k (A.deeper (envOfC "is_piece" (defScope s_is_piece) s.heap.objs.size f cdv))) (hgu : A.guards = some []) :
    DSs (cxOf CX0 P w K mg base N_is_piece "is_piece" (defScope s_is_piece) f cdv A outer s H E).nox (defBody s_is_piece) (m_is_piece c_is_signs c_is_name c_is_formed) :=
  have nd := sc_is_piece.nd
  have h : DSs (cxOf CX0 P w K mg base N_is_piece "is_piece" (defScope s_is_piece) f cdv A outer s H E).nox (defBody s_is_piece) (mi_is_piece c_is_signs c_is_name c_is_formed) :=
  (dss_cons (ds_if (dtc (opd_eq (u64 hr)) (dv 0) (de_str)) (dss_one (ds_ret (de_defK (ks := ["least"]) h_is_signs_1_least hr hgu (by rfl) (da_cons (dv 1) (da_nil)) (dk_cons (de_int) (dk_nil))))) (dss_nil))
  (dss_cons (ds_if (dtc (opd_eq (u64 hr)) (dv 0) (de_str)) (dss_one (ds_ret (de_def h_is_signs_1 hr hgu (by rfl) (da_cons (dv 1) (da_nil))))) (dss_nil))
  (dss_cons (ds_if (dtc (opd_eq (u64 hr)) (dv 0) (de_str)) (dss_one (ds_ret (de_def h_is_name_1 hr hgu (by rfl) (da_cons (dv 1) (da_nil))))) (dss_nil))
  (dss_cons (ds_if (dtc (opd_eq (u64 hr)) (dv 0) (de_str)) (dss_one (ds_ret (de_and (de_isinst (T := "str") kit_str (by rfl) g.b_isinstance (by rfl) (by rfl) g.b_str (by rfl) (dv 1)) (de_one (dec (opd_in (u65 hr)) (dv 1) (de_con g.c_MAKES (by rfl))))))) (dss_nil))
  (dss_cons (ds_if (dtc (opd_eq (u64 hr)) (dv 0) (de_str)) (dss_one (ds_ret (de_def h_is_formed_2 hr hgu (by rfl) (da_cons (dv 1) (da_cons (dv 2) (da_nil)))))) (dss_nil))
  (dss_cons (ds_if (dt_w (dw_or (dt_not (dt_of (de_isinst (T := "tuple") kit_tuple (by rfl) g.b_isinstance (by rfl) (by rfl) g.b_tuple (by rfl) (dv 1)))) (dw_or1 (dt_not (dt_chain opd_le opd_le (de_con g.c_LEAST_PARTS (by rfl)) (de_sel (de_dlen (i := 1) (by rfl) g.b_len (by rfl) (by first | exact .inl rfl | exact .inr (.inl rfl) | exact .inr (.inr rfl))) (de_callB calld_len (by rfl) g.b_len (by rfl) (da_cons (dv 1) (da_nil)))) (de_con g.c_MOST_PARTS_readers (by rfl))))))) (dss_one (ds_ret (de_bl))) (dss_nil))
  (dss_one (ds_ret (de_callB (calld_all (by rfl)) (by rfl) g.b_all (by rfl) (da_cons (de_lc (own := [(("part" : Str), 3)]) (by rfl) nd (di_of (dv 1)) (blkOk_by (N := N_is_piece) (sc := defScope s_is_piece) (own := [(("part" : Str), 3)]) (by decide +kernel)) (fun _ _ _ _ _ => dgn 3 nd) (fun _ _ _ _ _ => dts_nil) (fun _ _ _ _ _ => de_def h_is_formed_2 hr hgu (by rfl) (da_cons (dv 3) (da_cons (dv 2) (da_nil))))) (da_nil)))))))))))
  me_is_piece c_is_signs c_is_name c_is_formed ▸ h
def N_is_formed : List Str := ["thing", "left", "word", "pieces", "form", "piece"]
theorem sc_is_formed : FnScope N_is_formed ["thing", "left"] (defScope s_is_formed) := ⟨rfl, rfl, rfl, by decide +kernel, rfl, by decide +kernel, by decide +kernel⟩
def m_is_formed_0 (c_is_piece : Ct) : MS :=
  sRet (mCall cAll (aCons (mLc [4, 5] (iZip (mKix tab_FORMS (mVar 2)) (mVar 3)) (gTp 2 (gCs (gNm 4) (gCs (gNm 5) (gNl)))) (bYes) (mFnK c_is_piece (pick [(false, 0), (false, 1), (false, 2)]) 3 0 (aCons (mVar 4) (aCons (mVar 5) (aCons (mOp oSub (mVar 1) (mVal (.int 1))) (aNil)))) (aNil))) (aNil)))
def m_is_formed_1 (c_is_piece : Ct) : MS :=
  sSeq (sIf (bOr (mTest (mKin true tab_FORMS (mVar 2))) (mTest (mOp oNe (mCall cLen (aCons (mVar 3) (aNil))) (mCall cLen (aCons (mKix tab_FORMS (mVar 2)) (aNil)))))) (sRet (mVal (.bool false))) (sNext))
  (m_is_formed_0 c_is_piece)
def m_is_formed_2 (c_is_piece : Ct) : MS :=
  sSeq (sAsg (mVar 0) (gStar 2 1 (gCs (gNm 2) (gCs (gNm 3) (gNl)))))
  (m_is_formed_1 c_is_piece)
def m_is_formed_3 (c_is_piece : Ct) : MS :=
  sSeq (sIf (bOr (mTest (mOp oEq (mVar 1) (mVal (.int 0)))) (bOr (bNot (mTru (mIsI "tuple" (mVar 0)))) (bOr (mTest (mOp oEqU (mVar 0) (mTup (aNil)))) (bNot (mTru (mIsI "str" (mOp oIxA (mVar 0) (mVal (.int 0))))))))) (sRet (mVal (.bool false))) (sNext))
  (m_is_formed_2 c_is_piece)
def m_is_formed (c_is_piece : Ct) : MS := m_is_formed_3 c_is_piece
def mi_is_formed (c_is_piece : Ct) : MS :=
  sSeq (sIf (bOr (mTest (mOp oEq (mVar 1) (mVal (.int 0)))) (bOr (bNot (mTru (mIsI "tuple" (mVar 0)))) (bOr (mTest (mOp oEqU (mVar 0) (mTup (aNil)))) (bNot (mTru (mIsI "str" (mOp oIxA (mVar 0) (mVal (.int 0))))))))) (sRet (mVal (.bool false))) (sNext))
  (sSeq (sAsg (mVar 0) (gStar 2 1 (gCs (gNm 2) (gCs (gNm 3) (gNl)))))
  (sSeq (sIf (bOr (mTest (mKin true tab_FORMS (mVar 2))) (mTest (mOp oNe (mCall cLen (aCons (mVar 3) (aNil))) (mCall cLen (aCons (mKix tab_FORMS (mVar 2)) (aNil)))))) (sRet (mVal (.bool false))) (sNext))
  (sRet (mCall cAll (aCons (mLc [4, 5] (iZip (mKix tab_FORMS (mVar 2)) (mVar 3)) (gTp 2 (gCs (gNm 4) (gCs (gNm 5) (gNl)))) (bYes) (mFnK c_is_piece (pick [(false, 0), (false, 1), (false, 2)]) 3 0 (aCons (mVar 4) (aCons (mVar 5) (aCons (mOp oSub (mVar 1) (mVal (.int 1))) (aNil)))) (aNil))) (aNil))))))
theorem me_is_formed (c_is_piece : Ct) : mi_is_formed c_is_piece = m_is_formed c_is_piece := by rfl
theorem d_is_formed {P : Program} {w : World} {K : Fg} {mg : Str → Option Value} {base : Heap} {f : Addr} {cdv : Value} {A : Around} {outer : List Env} {s : Shared} {H : Hp} {E : XK} {k : Nat} {c_is_piece : Ct} (g : Gb w K mg)
    (h_is_piece_3 : Def P w K mg base k "is_piece" 3 [] (pick [(false, 0), (false, 1), (false, 2)]) c_is_piece)
    (hr : Room k (A.deeper (envOfC "is_formed" (defScope s_is_formed) s.heap.objs.size f cdv))) (hgu : A.guards = some []) :
    DSs (cxOf CX0 P w K mg base N_is_formed "is_formed" (defScope s_is_formed) f cdv A outer s H E).nox (defBody s_is_formed) (m_is_formed c_is_piece) :=
  have nd := sc_is_formed.nd
  have h : DSs (cxOf CX0 P w K mg base N_is_formed "is_formed" (defScope s_is_formed) f cdv A outer s H E).nox (defBody s_is_formed) (mi_is_formed c_is_piece) :=
  (dss_cons (ds_if (dt_w (dw_or (dtc (opd_eq (u64 hr)) (dv 1) (de_int)) (dw_or (dt_not (dt_of (de_isinst (T := "tuple") kit_tuple (by rfl) g.b_isinstance (by rfl) (by rfl) g.b_tuple (by rfl) (dv 0)))) (dw_or (dtc (opd_eqU (u64 hr)) (dv 0) (de_tup (da_nil))) (dw_or1 (dt_not (dt_of (de_isinst (T := "str") kit_str (by rfl) g.b_isinstance (by rfl) (by rfl) g.b_str (by rfl) (de_ixA (u1 hr) (dv 0) (de_int)))))))))) (dss_one (ds_ret (de_bl))) (dss_nil))
  (dss_cons (ds_asg (vs := [2, 3]) (dv 0) (dg_star (by rfl) (dgs_cons (dgn 2 nd) (dgs_star (dgn 3 nd) (dgs_nil)))))
  (dss_cons (ds_if (dt_w (dw_or (dt_tnotin g.t_FORMS (by rfl) (dv 2)) (dw_or1 (dtc (opd_ne (u64 hr)) (de_callB calld_len (by rfl) g.b_len (by rfl) (da_cons (dv 3) (da_nil))) (de_callB calld_len (by rfl) g.b_len (by rfl) (da_cons (de_tix g.t_FORMS (by rfl) (dv 2)) (da_nil))))))) (dss_one (ds_ret (de_bl))) (dss_nil))
  (dss_one (ds_ret (de_callB (calld_all (by rfl)) (by rfl) g.b_all (by rfl) (da_cons (de_lc (own := [(("form" : Str), 4), (("piece" : Str), 5)]) (by rfl) nd (di_zip (by rfl) g.b_zip (de_tix g.t_FORMS (by rfl) (dv 2)) (dv 3)) (blkOk_by (N := N_is_formed) (sc := defScope s_is_formed) (own := [(("form" : Str), 4), (("piece" : Str), 5)]) (by decide +kernel)) (fun _ _ _ _ _ => dg_tup (by rfl) (dgs_cons (dgn 4 nd) (dgs_cons (dgn 5 nd) (dgs_nil)))) (fun _ _ _ _ _ => dts_nil) (fun _ _ _ _ _ => de_def h_is_piece_3 hr hgu (by rfl) (da_cons (dv 4) (da_cons (dv 5) (da_cons (de_op opd_sub (dv 1) (de_int)) (da_nil)))))) (da_nil))))))))
  me_is_formed c_is_piece ▸ h
def N_is_reader : List Str := ["thing"]
theorem sc_is_reader : FnScope N_is_reader ["thing"] (defScope s_is_reader) := ⟨rfl, rfl, rfl, by decide +kernel, rfl, by decide +kernel, by decide +kernel⟩
def m_is_reader_0 (c_is_formed : Ct) : MS :=
  sRet (mFnK c_is_formed (pick [(false, 0), (false, 1)]) 2 0 (aCons (mVar 0) (aCons (mVal (.int 8)) (aNil))) (aNil))
def m_is_reader (c_is_formed : Ct) : MS := m_is_reader_0 c_is_formed
def mi_is_reader (c_is_formed : Ct) : MS :=
  sRet (mFnK c_is_formed (pick [(false, 0), (false, 1)]) 2 0 (aCons (mVar 0) (aCons (mVal (.int 8)) (aNil))) (aNil))
theorem me_is_reader (c_is_formed : Ct) : mi_is_reader c_is_formed = m_is_reader c_is_formed := by rfl
theorem d_is_reader {P : Program} {w : World} {K : Fg} {mg : Str → Option Value} {base : Heap} {f : Addr} {cdv : Value} {A : Around} {outer : List Env} {s : Shared} {H : Hp} {E : XK} {k : Nat} {c_is_formed : Ct} (g : Gb w K mg)
    (h_is_formed_2 : Def P w K mg base k "is_formed" 2 [] (pick [(false, 0), (false, 1)]) c_is_formed)
    (hr : Room k (A.deeper (envOfC "is_reader" (defScope s_is_reader) s.heap.objs.size f cdv))) (hgu : A.guards = some []) :
    DSs (cxOf CX0 P w K mg base N_is_reader "is_reader" (defScope s_is_reader) f cdv A outer s H E).nox (defBody s_is_reader) (m_is_reader c_is_formed) :=
  have nd := sc_is_reader.nd
  have h : DSs (cxOf CX0 P w K mg base N_is_reader "is_reader" (defScope s_is_reader) f cdv A outer s H E).nox (defBody s_is_reader) (mi_is_reader c_is_formed) :=
  (dss_one (ds_ret (de_def h_is_formed_2 hr hgu (by rfl) (da_cons (dv 0) (da_cons (de_con g.c_MOST_DEEP (by rfl)) (da_nil))))))
  me_is_reader c_is_formed ▸ h
def N_within : List Str := ["reader", "word", "pieces"]
theorem sc_within : FnScope N_within ["reader"] (defScope s_within) := ⟨rfl, rfl, rfl, by decide +kernel, rfl, by decide +kernel, by decide +kernel⟩
def m_within_0 : MS :=
  sRet (mCall cListU (aCons (mOp oIxA (mVar 2) (mVal (.int 0))) (aNil)))
def m_within_1 : MS :=
  sRet (mLst (aCons (mOp oIxA (mVar 2) (mNeg (mVal (.int 1)))) (aNil)))
def m_within_2 : MS :=
  sRet (mLst (aNil))
def m_within_3 : MS :=
  sSeq (sIf (mTru (mSm jEnds (mKix tab_FORMS (mVar 1)) (aCons (mVal (.str ("r" : Str))) (aNil)))) (m_within_1) (sNext))
  (m_within_2)
def m_within_4 : MS :=
  sSeq (sIf (mTest (mOp oEq (mKix tab_FORMS (mVar 1)) (mVal (.str ("p" : Str))))) (m_within_0) (sNext))
  (m_within_3)
def m_within_5 : MS :=
  sSeq (sAsg (mVar 0) (gStar 2 1 (gCs (gNm 1) (gCs (gNm 2) (gNl)))))
  (m_within_4)
def m_within : MS := m_within_5
def mi_within : MS :=
  sSeq (sAsg (mVar 0) (gStar 2 1 (gCs (gNm 1) (gCs (gNm 2) (gNl)))))
  (sSeq (sIf (mTest (mOp oEq (mKix tab_FORMS (mVar 1)) (mVal (.str ("p" : Str))))) (sRet (mCall cListU (aCons (mOp oIxA (mVar 2) (mVal (.int 0))) (aNil)))) (sNext))
  (sSeq (sIf (mTru (mSm jEnds (mKix tab_FORMS (mVar 1)) (aCons (mVal (.str ("r" : Str))) (aNil)))) (sRet (mLst (aCons (mOp oIxA (mVar 2) (mNeg (mVal (.int 1)))) (aNil)))) (sNext))
  (sRet (mLst (aNil)))))
theorem me_within : mi_within = m_within := by rfl
theorem d_within {P : Program} {w : World} {K : Fg} {mg : Str → Option Value} {base : Heap} {f : Addr} {cdv : Value} {A : Around} {outer : List Env} {s : Shared} {H : Hp} {E : XK} {k : Nat} (g : Gb w K mg)
    (hr : Room k (A.deeper (envOfC "within" (defScope s_within) s.heap.objs.size f cdv))) (hgu : A.guards = some []) :
    DSs (cxOf CX0 P w K mg base N_within "within" (defScope s_within) f cdv A outer s H E).nox (defBody s_within) (m_within) :=
  have nd := sc_within.nd
  have h : DSs (cxOf CX0 P w K mg base N_within "within" (defScope s_within) f cdv A outer s H E).nox (defBody s_within) (mi_within) :=
  (dss_cons (ds_asg (vs := [1, 2]) (dv 0) (dg_star (by rfl) (dgs_cons (dgn 1 nd) (dgs_star (dgn 2 nd) (dgs_nil)))))
  (dss_cons (ds_if (dtc (opd_eq (u64 hr)) (de_tix g.t_FORMS (by rfl) (dv 1)) (de_str)) (dss_one (ds_ret (de_callTy (calld_listU (by rfl)) (by rfl) g.b_list (by rfl) (da_cons (de_ixA (u1 hr) (dv 2) (de_int)) (da_nil))))) (dss_nil))
  (dss_cons (ds_if (dt_of (de_sm smd_endswith PySem.F.slot_str_endswith PySem.F.type_str_endswith (de_tix g.t_FORMS (by rfl) (dv 1)) (da_cons (de_str) (da_nil)))) (dss_one (ds_ret (de_lst (da_cons (de_ixA (u1 hr) (dv 2) (de_neg (de_int))) (da_nil))))) (dss_nil))
  (dss_one (ds_ret (de_lst (da_nil)))))))
  me_within ▸ h
def N_all_within : List Str := ["reader", "found", "part"]
theorem sc_all_within : FnScope N_all_within ["reader"] (defScope s_all_within) := ⟨rfl, rfl, rfl, by decide +kernel, rfl, by decide +kernel, by decide +kernel⟩
def m_all_within_0 (c_within : Ct) (c_all_within : Ct) : MS :=
  sExpr (mMeth 1 tExtend (aCons (mFnK c_all_within (pick [(false, 0)]) 1 0 (aCons (mVar 2) (aNil)) (aNil)) (aNil)))
def m_all_within_1 (c_within : Ct) (c_all_within : Ct) : MS :=
  sRet (mVar 1)
def m_all_within_2 (c_within : Ct) (c_all_within : Ct) : MS :=
  sSeq (sFor (iOf (mFnK c_within (pick [(false, 0)]) 1 0 (aCons (mVar 0) (aNil)) (aNil))) (gNm 2)
  (m_all_within_0 c_within c_all_within))
  (m_all_within_1 c_within c_all_within)
def m_all_within_3 (c_within : Ct) (c_all_within : Ct) : MS :=
  sSeq (sSet 1 (mLst (aCons (mVar 0) (aNil))))
  (m_all_within_2 c_within c_all_within)
def m_all_within (c_within : Ct) (c_all_within : Ct) : MS := m_all_within_3 c_within c_all_within
def mi_all_within (c_within : Ct) (c_all_within : Ct) : MS :=
  sSeq (sSet 1 (mLst (aCons (mVar 0) (aNil))))
  (sSeq (sFor (iOf (mFnK c_within (pick [(false, 0)]) 1 0 (aCons (mVar 0) (aNil)) (aNil))) (gNm 2)
  (sExpr (mMeth 1 tExtend (aCons (mFnK c_all_within (pick [(false, 0)]) 1 0 (aCons (mVar 2) (aNil)) (aNil)) (aNil)))))
  (sRet (mVar 1)))
theorem me_all_within (c_within : Ct) (c_all_within : Ct) : mi_all_within c_within c_all_within = m_all_within c_within c_all_within := by rfl
theorem d_all_within {P : Program} {w : World} {K : Fg} {mg : Str → Option Value} {base : Heap} {f : Addr} {cdv : Value} {A : Around} {outer : List Env} {s : Shared} {H : Hp} {E : XK} {k : Nat} {c_within c_all_within : Ct} (g : Gb w K mg)
    (h_within_1 : Def P w K mg base k "within" 1 [] (pick [(false, 0)]) c_within)
    (h_all_within_1 : Def P w K mg base k "all_within" 1 [] (pick [(false, 0)]) c_all_within)
    (hr : Room k (A.deeper (envOfC "all_within" (defScope s_all_within) s.heap.objs.size f cdv))) (hgu : A.guards = some []) :
    DSs (cxOf CX0 P w K mg base N_all_within "all_within" (defScope s_all_within) f cdv A outer s H E).nox (defBody s_all_within) (m_all_within c_within c_all_within) :=
  have nd := sc_all_within.nd
  have h : DSs (cxOf CX0 P w K mg base N_all_within "all_within" (defScope s_all_within) f cdv A outer s H E).nox (defBody s_all_within) (mi_all_within c_within c_all_within) :=
  (dss_cons (dst 1 nd (de_lst (da_cons (dv 0) (da_nil))))
  (dss_cons (ds_for (vs := [2]) PassesOwn.never (by rfl) (di_of (de_def h_within_1 hr hgu (by rfl) (da_cons (dv 0) (da_nil)))) (dgn 2 nd)
  (dss_one (ds_expr (de_meth (i := 1) met_extend PySem.F.slot_list_extend PySem.F.type_list_extend (by rfl) (by first | exact .inl rfl | exact .inr (.inl rfl) | exact .inr (.inr rfl)) (da_cons (de_def h_all_within_1 hr hgu (by rfl) (da_cons (dv 2) (da_nil))) (da_nil))))))
  (dss_one (ds_ret (dv 1)))))
  me_all_within c_within c_all_within ▸ h
def N_are_named : List Str := ["thing", "pair", "name", "reader"]
theorem sc_are_named : FnScope N_are_named ["thing"] (defScope s_are_named) := ⟨rfl, rfl, rfl, by decide +kernel, rfl, by decide +kernel, by decide +kernel⟩
def m_are_named_0 (c_is_name : Ct) : MS :=
  sRet (mOp oEq (mLenSc [2, 3] (iOf (mVar 0)) (gTp 2 (gCs (gNm 2) (gCs (gNm 3) (gNl)))) (bYes) (mVar 2)) (mSel 0 (mDLen 0) (mCall cLen (aCons (mVar 0) (aNil)))))
def m_are_named_1 (c_is_name : Ct) : MS :=
  sSeq (sIf (bNot (mTru (mCall cAll (aCons (mLc [1] (iOf (mVar 0)) (gNm 1) (bYes) (mAnd (mIsI "tuple" (mVar 1)) (mAnd (mOp oEq (mCall cLen (aCons (mVar 1) (aNil))) (mVal (.int 2))) (mFnK c_is_name (pick [(false, 0)]) 1 0 (aCons (mOp oIxA (mVar 1) (mVal (.int 0))) (aNil)) (aNil))))) (aNil))))) (sRet (mVal (.bool false))) (sNext))
  (m_are_named_0 c_is_name)
def m_are_named_2 (c_is_name : Ct) : MS :=
  sSeq (sIf (bOr (bNot (mTru (mIsI "tuple" (mVar 0)))) (bNot (mTest (mChain oLe oLe (mVal (.int 1)) (mSel 0 (mDLen 0) (mCall cLen (aCons (mVar 0) (aNil)))) (mVal (.int 8)))))) (sRet (mVal (.bool false))) (sNext))
  (m_are_named_1 c_is_name)
def m_are_named (c_is_name : Ct) : MS := m_are_named_2 c_is_name
def mi_are_named (c_is_name : Ct) : MS :=
  sSeq (sIf (bOr (bNot (mTru (mIsI "tuple" (mVar 0)))) (bNot (mTest (mChain oLe oLe (mVal (.int 1)) (mSel 0 (mDLen 0) (mCall cLen (aCons (mVar 0) (aNil)))) (mVal (.int 8)))))) (sRet (mVal (.bool false))) (sNext))
  (sSeq (sIf (bNot (mTru (mCall cAll (aCons (mLc [1] (iOf (mVar 0)) (gNm 1) (bYes) (mAnd (mIsI "tuple" (mVar 1)) (mAnd (mOp oEq (mCall cLen (aCons (mVar 1) (aNil))) (mVal (.int 2))) (mFnK c_is_name (pick [(false, 0)]) 1 0 (aCons (mOp oIxA (mVar 1) (mVal (.int 0))) (aNil)) (aNil))))) (aNil))))) (sRet (mVal (.bool false))) (sNext))
  (sRet (mOp oEq (mLenSc [2, 3] (iOf (mVar 0)) (gTp 2 (gCs (gNm 2) (gCs (gNm 3) (gNl)))) (bYes) (mVar 2)) (mSel 0 (mDLen 0) (mCall cLen (aCons (mVar 0) (aNil)))))))
theorem me_are_named (c_is_name : Ct) : mi_are_named c_is_name = m_are_named c_is_name := by rfl
theorem d_are_named {P : Program} {w : World} {K : Fg} {mg : Str → Option Value} {base : Heap} {f : Addr} {cdv : Value} {A : Around} {outer : List Env} {s : Shared} {H : Hp} {E : XK} {k : Nat} {c_is_name : Ct} (g : Gb w K mg)
    (h_is_name_1 : Def P w K mg base k "is_name" 1 [] (pick [(false, 0)]) c_is_name)
    (hr : Room k (A.deeper (envOfC "are_named" (defScope s_are_named) s.heap.objs.size f cdv))) (hgu : A.guards = some []) :
    DSs (cxOf CX0 P w K mg base N_are_named "are_named" (defScope s_are_named) f cdv A outer s H E).nox (defBody s_are_named) (m_are_named c_is_name) :=
  have nd := sc_are_named.nd
  have h : DSs (cxOf CX0 P w K mg base N_are_named "are_named" (defScope s_are_named) f cdv A outer s H E).nox (defBody s_are_named) (mi_are_named c_is_name) :=
  (dss_cons (ds_if (dt_w (dw_or (dt_not (dt_of (de_isinst (T := "tuple") kit_tuple (by rfl) g.b_isinstance (by rfl) (by rfl) g.b_tuple (by rfl) (dv 0)))) (dw_or1 (dt_not (dt_chain opd_le opd_le (de_int) (de_sel (de_dlen (i := 0) (by rfl) g.b_len (by rfl) (by first | exact .inl rfl | exact .inr (.inl rfl) | exact .inr (.inr rfl))) (de_callB calld_len (by rfl) g.b_len (by rfl) (da_cons (dv 0) (da_nil)))) (de_con g.c_MOST_NAMES (by rfl))))))) (dss_one (ds_ret (de_bl))) (dss_nil))
  (dss_cons (ds_if (dt_not (dt_of (de_callB (calld_all (by rfl)) (by rfl) g.b_all (by rfl) (da_cons (de_lc (own := [(("pair" : Str), 1)]) (by rfl) nd (di_of (dv 0)) (blkOk_by (N := N_are_named) (sc := defScope s_are_named) (own := [(("pair" : Str), 1)]) (by decide +kernel)) (fun _ _ _ _ _ => dgn 1 nd) (fun _ _ _ _ _ => dts_nil) (fun _ _ _ _ _ => de_and (de_isinst (T := "tuple") kit_tuple (by rfl) g.b_isinstance (by rfl) (by rfl) g.b_tuple (by rfl) (dv 1)) (de_and (dec (opd_eq (u64 hr)) (de_callB calld_len (by rfl) g.b_len (by rfl) (da_cons (dv 1) (da_nil))) (de_int)) (de_one (de_def h_is_name_1 hr hgu (by rfl) (da_cons (de_ixA (u1 hr) (dv 1) (de_int)) (da_nil))))))) (da_nil))))) (dss_one (ds_ret (de_bl))) (dss_nil))
  (dss_one (ds_ret (dec (opd_eq (u64 hr)) (de_lenSc (own := [(("name" : Str), 2), (("reader" : Str), 3)]) (by rfl) (by rfl) g.b_len nd (di_of (dv 0)) (blkOk_by (N := N_are_named) (sc := defScope s_are_named) (own := [(("name" : Str), 2), (("reader" : Str), 3)]) (by decide +kernel)) (fun _ _ _ _ _ => dg_tup (by rfl) (dgs_cons (dgn 2 nd) (dgs_cons (dgn 3 nd) (dgs_nil)))) (fun _ _ _ _ _ => dts_nil) (fun _ _ _ _ _ => dv 2)) (de_sel (de_dlen (i := 0) (by rfl) g.b_len (by rfl) (by first | exact .inl rfl | exact .inr (.inl rfl) | exact .inr (.inr rfl))) (de_callB calld_len (by rfl) g.b_len (by rfl) (da_cons (dv 0) (da_nil)))))))))
  me_are_named c_is_name ▸ h
def N_is_right : List Str := ["names", "reader", "part"]
theorem sc_is_right : FnScope N_is_right ["names", "reader"] (defScope s_is_right) := ⟨rfl, rfl, rfl, by decide +kernel, rfl, by decide +kernel, by decide +kernel⟩
def m_is_right_0 (c_is_reader : Ct) (c_all_within : Ct) : MS :=
  sRet (mCall cAll (aCons (mLc [2] (iOf (mFnK c_all_within (pick [(false, 0)]) 1 0 (aCons (mVar 1) (aNil)) (aNil))) (gNm 2) (mTest (mOp oEq (mOp oIxA (mVar 2) (mVal (.int 0))) (mVal (.str ("name" : Str))))) (mSel 0 (mDIn false 0 (mOp oIxA (mVar 2) (mVal (.int 1)))) (mOp oIn (mOp oIxA (mVar 2) (mVal (.int 1))) (mVar 0)))) (aNil)))
def m_is_right_1 (c_is_reader : Ct) (c_all_within : Ct) : MS :=
  sSeq (sIf (bNot (mTru (mFnK c_is_reader (pick [(false, 0)]) 1 0 (aCons (mVar 1) (aNil)) (aNil)))) (sRet (mVal (.bool false))) (sNext))
  (m_is_right_0 c_is_reader c_all_within)
def m_is_right (c_is_reader : Ct) (c_all_within : Ct) : MS := m_is_right_1 c_is_reader c_all_within
def mi_is_right (c_is_reader : Ct) (c_all_within : Ct) : MS :=
  sSeq (sIf (bNot (mTru (mFnK c_is_reader (pick [(false, 0)]) 1 0 (aCons (mVar 1) (aNil)) (aNil)))) (sRet (mVal (.bool false))) (sNext))
  (sRet (mCall cAll (aCons (mLc [2] (iOf (mFnK c_all_within (pick [(false, 0)]) 1 0 (aCons (mVar 1) (aNil)) (aNil))) (gNm 2) (mTest (mOp oEq (mOp oIxA (mVar 2) (mVal (.int 0))) (mVal (.str ("name" : Str))))) (mSel 0 (mDIn false 0 (mOp oIxA (mVar 2) (mVal (.int 1)))) (mOp oIn (mOp oIxA (mVar 2) (mVal (.int 1))) (mVar 0)))) (aNil))))
theorem me_is_right (c_is_reader : Ct) (c_all_within : Ct) : mi_is_right c_is_reader c_all_within = m_is_right c_is_reader c_all_within := by rfl
theorem d_is_right {P : Program} {w : World} {K : Fg} {mg : Str → Option Value} {base : Heap} {f : Addr} {cdv : Value} {A : Around} {outer : List Env} {s : Shared} {H : Hp} {E : XK} {k : Nat} {c_is_reader c_all_within : Ct} (g : Gb w K mg)
    (h_is_reader_1 : Def P w K mg base k "is_reader" 1 [] (pick [(false, 0)]) c_is_reader)
    (h_all_within_1 : Def P w K mg base k "all_within" 1 [] (pick [(false, 0)]) c_all_within)
    (hr : Room k (A.deeper (envOfC "is_right" (defScope s_is_right) s.heap.objs.size f cdv))) (hgu : A.guards = some []) :
    DSs (cxOf CX0 P w K mg base N_is_right "is_right" (defScope s_is_right) f cdv A outer s H E).nox (defBody s_is_right) (m_is_right c_is_reader c_all_within) :=
  have nd := sc_is_right.nd
  have h : DSs (cxOf CX0 P w K mg base N_is_right "is_right" (defScope s_is_right) f cdv A outer s H E).nox (defBody s_is_right) (mi_is_right c_is_reader c_all_within) :=
  (dss_cons (ds_if (dt_not (dt_of (de_def h_is_reader_1 hr hgu (by rfl) (da_cons (dv 1) (da_nil))))) (dss_one (ds_ret (de_bl))) (dss_nil))
  (dss_one (ds_ret (de_callB (calld_all (by rfl)) (by rfl) g.b_all (by rfl) (da_cons (de_lc (own := [(("part" : Str), 2)]) (by rfl) nd (di_of (de_def h_all_within_1 hr hgu (by rfl) (da_cons (dv 1) (da_nil)))) (blkOk_by (N := N_is_right) (sc := defScope s_is_right) (own := [(("part" : Str), 2)]) (by decide +kernel)) (fun _ _ _ _ _ => dgn 2 nd) (fun _ _ _ _ _ => dts_one (dtc (opd_eq (u64 hr)) (de_ixA (u1 hr) (dv 2) (de_int)) (de_con g.c_CALLS (by rfl)))) (fun _ _ _ _ _ => de_sel (de_din (u1 hr) (i := 0) (by rfl) (by first | exact .inl rfl | exact .inr (.inl rfl) | exact .inr (.inr rfl)) (de_ixA (u1 hr) (dv 2) (de_int))) (de_cmp (opd_in (u65 hr)) (de_ixA (u1 hr) (dv 2) (de_int)) (dv 0) (by rfl)))) (da_nil))))))
  me_is_right c_is_reader c_all_within ▸ h
def N_first_wrong : List Str := ["pairs", "names", "name", "reader", "wrong"]
theorem sc_first_wrong : FnScope N_first_wrong ["pairs"] (defScope s_first_wrong) := ⟨rfl, rfl, rfl, by decide +kernel, rfl, by decide +kernel, by decide +kernel⟩
def m_first_wrong_0 (c_is_right : Ct) : MS :=
  sRet (mIf (mTest (mOp oNeU (mVar 4) (mLst (aNil)))) (mOp oIxA (mVar 4) (mVal (.int 0))) (mVal .none))
def m_first_wrong_1 (c_is_right : Ct) : MS :=
  sSeq (sSet 4 (mLc [2, 3] (iOf (mVar 0)) (gTp 2 (gCs (gNm 2) (gCs (gNm 3) (gNl)))) (bNot (mTru (mFnK c_is_right (pick [(false, 0), (false, 1)]) 2 0 (aCons (mVar 1) (aCons (mVar 3) (aNil))) (aNil)))) (mVar 2)))
  (m_first_wrong_0 c_is_right)
def m_first_wrong_2 (c_is_right : Ct) : MS :=
  sSeq (sSet 1 (mLc [2, 3] (iOf (mVar 0)) (gTp 2 (gCs (gNm 2) (gCs (gNm 3) (gNl)))) (bYes) (mVar 2)))
  (m_first_wrong_1 c_is_right)
def m_first_wrong (c_is_right : Ct) : MS := m_first_wrong_2 c_is_right
def mi_first_wrong (c_is_right : Ct) : MS :=
  sSeq (sSet 1 (mLc [2, 3] (iOf (mVar 0)) (gTp 2 (gCs (gNm 2) (gCs (gNm 3) (gNl)))) (bYes) (mVar 2)))
  (sSeq (sSet 4 (mLc [2, 3] (iOf (mVar 0)) (gTp 2 (gCs (gNm 2) (gCs (gNm 3) (gNl)))) (bNot (mTru (mFnK c_is_right (pick [(false, 0), (false, 1)]) 2 0 (aCons (mVar 1) (aCons (mVar 3) (aNil))) (aNil)))) (mVar 2)))
  (sRet (mIf (mTest (mOp oNeU (mVar 4) (mLst (aNil)))) (mOp oIxA (mVar 4) (mVal (.int 0))) (mVal .none))))
theorem me_first_wrong (c_is_right : Ct) : mi_first_wrong c_is_right = m_first_wrong c_is_right := by rfl
theorem d_first_wrong {P : Program} {w : World} {K : Fg} {mg : Str → Option Value} {base : Heap} {f : Addr} {cdv : Value} {A : Around} {outer : List Env} {s : Shared} {H : Hp} {E : XK} {k : Nat} {c_is_right : Ct} (g : Gb w K mg)
    (h_is_right_2 : Def P w K mg base k "is_right" 2 [] (pick [(false, 0), (false, 1)]) c_is_right)
    (hr : Room k (A.deeper (envOfC "first_wrong" (defScope s_first_wrong) s.heap.objs.size f cdv))) (hgu : A.guards = some []) :
    DSs (cxOf CX0 P w K mg base N_first_wrong "first_wrong" (defScope s_first_wrong) f cdv A outer s H E).nox (defBody s_first_wrong) (m_first_wrong c_is_right) :=
  have nd := sc_first_wrong.nd
  have h : DSs (cxOf CX0 P w K mg base N_first_wrong "first_wrong" (defScope s_first_wrong) f cdv A outer s H E).nox (defBody s_first_wrong) (mi_first_wrong c_is_right) :=
  (dss_cons (dst 1 nd (de_lc (own := [(("name" : Str), 2), (("reader" : Str), 3)]) (by rfl) nd (di_of (dv 0)) (blkOk_by (N := N_first_wrong) (sc := defScope s_first_wrong) (own := [(("name" : Str), 2), (("reader" : Str), 3)]) (by decide +kernel)) (fun _ _ _ _ _ => dg_tup (by rfl) (dgs_cons (dgn 2 nd) (dgs_cons (dgn 3 nd) (dgs_nil)))) (fun _ _ _ _ _ => dts_nil) (fun _ _ _ _ _ => dv 2)))
  (dss_cons (ds_setLc (i := 4) (own := [(("name" : Str), 2), (("reader" : Str), 3)]) (by rfl) nd (by rfl) (by rfl) (by rfl) (di_of (dv 0)) (blkOk_by (N := N_first_wrong) (sc := defScope s_first_wrong) (own := [(("name" : Str), 2), (("reader" : Str), 3)]) (by decide +kernel)) (fun _ _ _ _ _ => dg_tup (by rfl) (dgs_cons (dgn 2 nd) (dgs_cons (dgn 3 nd) (dgs_nil)))) (fun _ _ _ _ _ => dts_one (dt_not (dt_of (de_def h_is_right_2 hr hgu (by rfl) (da_cons (dv 1) (da_cons (dv 3) (da_nil))))))) (fun _ _ _ _ _ => dv 2))
  (dss_one (ds_ret (de_if (dtc (opd_neU (u64 hr)) (dv 4) (de_lst (da_nil))) (de_ixA (u1 hr) (dv 4) (de_int)) (de_non))))))
  me_first_wrong c_is_right ▸ h
def N_parts_of : List Str := ["book", "name", "reader", "part"]
theorem sc_parts_of : FnScope N_parts_of ["book"] (defScope s_parts_of) := ⟨rfl, rfl, rfl, by decide +kernel, rfl, by decide +kernel, by decide +kernel⟩
def m_parts_of_0 (c_all_within : Ct) : MS :=
  sRet (mLc2 [1, 2, 3] [3] (iOf (mVar 0)) (gTp 2 (gCs (gNm 1) (gCs (gNm 2) (gNl)))) (bYes) (iOf (mFnK c_all_within (pick [(false, 0)]) 1 0 (aCons (mVar 2) (aNil)) (aNil))) (gNm 3) (bYes) (mVar 3))
def m_parts_of (c_all_within : Ct) : MS := m_parts_of_0 c_all_within
def mi_parts_of (c_all_within : Ct) : MS :=
  sRet (mLc2 [1, 2, 3] [3] (iOf (mVar 0)) (gTp 2 (gCs (gNm 1) (gCs (gNm 2) (gNl)))) (bYes) (iOf (mFnK c_all_within (pick [(false, 0)]) 1 0 (aCons (mVar 2) (aNil)) (aNil))) (gNm 3) (bYes) (mVar 3))
theorem me_parts_of (c_all_within : Ct) : mi_parts_of c_all_within = m_parts_of c_all_within := by rfl
theorem d_parts_of {P : Program} {w : World} {K : Fg} {mg : Str → Option Value} {base : Heap} {f : Addr} {cdv : Value} {A : Around} {outer : List Env} {s : Shared} {H : Hp} {E : XK} {k : Nat} {c_all_within : Ct} (g : Gb w K mg)
    (h_all_within_1 : Def P w K mg base k "all_within" 1 [] (pick [(false, 0)]) c_all_within)
    (hr : Room k (A.deeper (envOfC "parts_of" (defScope s_parts_of) s.heap.objs.size f cdv))) (hgu : A.guards = some []) :
    DSs (cxOf CX0 P w K mg base N_parts_of "parts_of" (defScope s_parts_of) f cdv A outer s H E).nox (defBody s_parts_of) (m_parts_of c_all_within) :=
  have nd := sc_parts_of.nd
  have h : DSs (cxOf CX0 P w K mg base N_parts_of "parts_of" (defScope s_parts_of) f cdv A outer s H E).nox (defBody s_parts_of) (mi_parts_of c_all_within) :=
  (dss_one (ds_ret (de_lc2 (own := [(("name" : Str), 1), (("reader" : Str), 2), (("part" : Str), 3)]) (vs1 := [3]) (by rfl) nd (di_of (dv 0)) (blkOk_by (N := N_parts_of) (sc := defScope s_parts_of) (own := [(("name" : Str), 1), (("reader" : Str), 2), (("part" : Str), 3)]) (by decide +kernel)) (by decide) (fun _ _ _ _ _ => dg_tup (by rfl) (dgs_cons (dgn 1 nd) (dgs_cons (dgn 2 nd) (dgs_nil)))) (fun _ _ _ _ _ => dts_nil) (fun _ _ _ _ _ => di_of (de_def h_all_within_1 hr hgu (by rfl) (da_cons (dv 2) (da_nil)))) (fun _ _ _ _ _ => dgn 3 nd) (fun _ _ _ _ _ => dts_nil) (fun _ _ _ _ _ => dv 3))))
  me_parts_of c_all_within ▸ h
def N_is_book : List Str := ["thing"]
theorem sc_is_book : FnScope N_is_book ["thing"] (defScope s_is_book) := ⟨rfl, rfl, rfl, by decide +kernel, rfl, by decide +kernel, by decide +kernel⟩
def m_is_book_0 (c_are_named : Ct) (c_first_wrong : Ct) (c_parts_of : Ct) : MS :=
  sRet (mAnd (mFnK c_are_named (pick [(false, 0)]) 1 0 (aCons (mVar 0) (aNil)) (aNil)) (mAnd (mOp oIs (mFnK c_first_wrong (pick [(false, 0)]) 1 0 (aCons (mVar 0) (aNil)) (aNil)) (mVal .none)) (mOp oLe (mCall cLen (aCons (mFnK c_parts_of (pick [(false, 0)]) 1 0 (aCons (mVar 0) (aNil)) (aNil)) (aNil))) (mVal (.int 80)))))
def m_is_book (c_are_named : Ct) (c_first_wrong : Ct) (c_parts_of : Ct) : MS := m_is_book_0 c_are_named c_first_wrong c_parts_of
def mi_is_book (c_are_named : Ct) (c_first_wrong : Ct) (c_parts_of : Ct) : MS :=
  sRet (mAnd (mFnK c_are_named (pick [(false, 0)]) 1 0 (aCons (mVar 0) (aNil)) (aNil)) (mAnd (mOp oIs (mFnK c_first_wrong (pick [(false, 0)]) 1 0 (aCons (mVar 0) (aNil)) (aNil)) (mVal .none)) (mOp oLe (mCall cLen (aCons (mFnK c_parts_of (pick [(false, 0)]) 1 0 (aCons (mVar 0) (aNil)) (aNil)) (aNil))) (mVal (.int 80)))))
theorem me_is_book (c_are_named : Ct) (c_first_wrong : Ct) (c_parts_of : Ct) : mi_is_book c_are_named c_first_wrong c_parts_of = m_is_book c_are_named c_first_wrong c_parts_of := by rfl
theorem d_is_book {P : Program} {w : World} {K : Fg} {mg : Str → Option Value} {base : Heap} {f : Addr} {cdv : Value} {A : Around} {outer : List Env} {s : Shared} {H : Hp} {E : XK} {k : Nat} {c_are_named c_first_wrong c_parts_of : Ct} (g : Gb w K mg)
    (h_are_named_1 : Def P w K mg base k "are_named" 1 [] (pick [(false, 0)]) c_are_named)
    (h_first_wrong_1 : Def P w K mg base k "first_wrong" 1 [] (pick [(false, 0)]) c_first_wrong)
    (h_parts_of_1 : Def P w K mg base k "parts_of" 1 [] (pick [(false, 0)]) c_parts_of)
    (hr : Room k (A.deeper (envOfC "is_book" (defScope s_is_book) s.heap.objs.size f cdv))) (hgu : A.guards = some []) :
    DSs (cxOf CX0 P w K mg base N_is_book "is_book" (defScope s_is_book) f cdv A outer s H E).nox (defBody s_is_book) (m_is_book c_are_named c_first_wrong c_parts_of) :=
  have nd := sc_is_book.nd
  have h : DSs (cxOf CX0 P w K mg base N_is_book "is_book" (defScope s_is_book) f cdv A outer s H E).nox (defBody s_is_book) (mi_is_book c_are_named c_first_wrong c_parts_of) :=
  (dss_one (ds_ret (de_and (de_def h_are_named_1 hr hgu (by rfl) (da_cons (dv 0) (da_nil))) (de_and (dec opd_is (de_def h_first_wrong_1 hr hgu (by rfl) (da_cons (dv 0) (da_nil))) (de_non)) (de_one (dec opd_le (de_callB calld_len (by rfl) g.b_len (by rfl) (da_cons (de_def h_parts_of_1 hr hgu (by rfl) (da_cons (dv 0) (da_nil))) (da_nil))) (de_con g.c_MOST_PARTS_books (by rfl))))))))
  me_is_book c_are_named c_first_wrong c_parts_of ▸ h
def N__law_draw : List Str := ["_law_pen", "_law_many", "_law_digit", "_law_at", "_law_cell", "_law_mixed"]
theorem sc__law_draw : FnScope N__law_draw ["_law_pen", "_law_many"] (defScope s__law_draw) := ⟨rfl, rfl, rfl, by decide +kernel, rfl, by decide +kernel, by decide +kernel⟩
def m__law_draw_0 : MS :=
  sRet (mVar 2)
def m__law_draw_1 : MS :=
  sSeq (sPut 0 (mOp oDiv (mOp oIxA (mVar 0) (mVal (.int 2))) (mVar 1)) (mVal (.int 2)))
  (m__law_draw_0)
def m__law_draw_2 : MS :=
  sSeq (sSet 2 (mOp oMod (mOp oIxA (mVar 0) (mVal (.int 2))) (mVar 1)))
  (m__law_draw_1)
def m__law_draw_3 : MS :=
  sSet 4 (mOp oIxA (mOp oIxA (mVar 0) (mVal (.int 0))) (mOp oMod (mVar 3) (mCall cLen (aCons (mOp oIxA (mVar 0) (mVal (.int 0))) (aNil)))))
def m__law_draw_4 : MS :=
  sRet (mOp oMod (mCall cAbs (aCons (mVar 4) (aNil))) (mVar 1))
def m__law_draw_5 : MS :=
  sSeq (sPut 0 (mOp oDiv (mCall cAbs (aCons (mVar 4) (aNil))) (mVar 1)) (mVal (.int 2)))
  (m__law_draw_4)
def m__law_draw_6 : MS :=
  sRet (mOp oMod (mOp oDiv (mVar 5) (mVal (.int 32))) (mVar 1))
def m__law_draw_7 : MS :=
  sSeq (sSet 5 (mOp oMod (mOp oPow (mOp oAdd (mOp oMul (mVar 5) (mOp oAdd (mOp oMul (mVal (.int 5)) (mVar 3)) (mVal (.int 2)))) (mVal (.int 80039))) (mVal (.int 3))) (mVal (.int 2147483587))))
  (m__law_draw_6)
def m__law_draw_8 : MS :=
  sSeq (sSet 5 (mOp oMod (mOp oPow (mOp oAdd (mOp oAdd (mOp oAdd (mOp oMod (mVar 4) (mVal (.int 2147483563))) (mOp oMul (mOp oMul (mVal (.int 50021)) (mVar 3)) (mVar 3))) (mOp oMul (mVal (.int 70009)) (mVar 3))) (mVal (.int 37))) (mVal (.int 3))) (mVal (.int 2147483647))))
  (m__law_draw_7)
def m__law_draw_9 : MS :=
  sSeq (sIf (bAnd (mTest (mOp oLt (mVar 3) (mCall cLen (aCons (mOp oIxA (mVar 0) (mVal (.int 0))) (aNil))))) (mTest (mOp oGe (mCall cAbs (aCons (mVar 4) (aNil))) (mOp oPow (mVal (.int 10)) (mVal (.int 18)))))) (m__law_draw_5) (sNext))
  (m__law_draw_8)
def m__law_draw_10 : MS :=
  sSeq (sIf (mTest (mOp oNeU (mOp oIxA (mVar 0) (mVal (.int 0))) (mLst (aNil)))) (m__law_draw_3) (sNext))
  (m__law_draw_9)
def m__law_draw_11 : MS :=
  sSeq (sSet 4 (mOp oAdd (mOp oMul (mVal (.int 80021)) (mVar 3)) (mVal (.int 57))))
  (m__law_draw_10)
def m__law_draw_12 : MS :=
  sSeq (sPut 0 (mOp oAdd (mVar 3) (mVal (.int 1))) (mVal (.int 1)))
  (m__law_draw_11)
def m__law_draw_13 : MS :=
  sSeq (sSet 3 (mOp oIxA (mVar 0) (mVal (.int 1))))
  (m__law_draw_12)
def m__law_draw_14 : MS :=
  sSeq (sIf (mTest (mOp oGt (mOp oIxA (mVar 0) (mVal (.int 2))) (mVal (.int 0)))) (m__law_draw_2) (sNext))
  (m__law_draw_13)
def m__law_draw : MS := m__law_draw_14
def mi__law_draw : MS :=
  sSeq (sIf (mTest (mOp oGt (mOp oIxA (mVar 0) (mVal (.int 2))) (mVal (.int 0)))) (sSeq (sSet 2 (mOp oMod (mOp oIxA (mVar 0) (mVal (.int 2))) (mVar 1)))
  (sSeq (sPut 0 (mOp oDiv (mOp oIxA (mVar 0) (mVal (.int 2))) (mVar 1)) (mVal (.int 2)))
  (sRet (mVar 2)))) (sNext))
  (sSeq (sSet 3 (mOp oIxA (mVar 0) (mVal (.int 1))))
  (sSeq (sPut 0 (mOp oAdd (mVar 3) (mVal (.int 1))) (mVal (.int 1)))
  (sSeq (sSet 4 (mOp oAdd (mOp oMul (mVal (.int 80021)) (mVar 3)) (mVal (.int 57))))
  (sSeq (sIf (mTest (mOp oNeU (mOp oIxA (mVar 0) (mVal (.int 0))) (mLst (aNil)))) (sSet 4 (mOp oIxA (mOp oIxA (mVar 0) (mVal (.int 0))) (mOp oMod (mVar 3) (mCall cLen (aCons (mOp oIxA (mVar 0) (mVal (.int 0))) (aNil)))))) (sNext))
  (sSeq (sIf (bAnd (mTest (mOp oLt (mVar 3) (mCall cLen (aCons (mOp oIxA (mVar 0) (mVal (.int 0))) (aNil))))) (mTest (mOp oGe (mCall cAbs (aCons (mVar 4) (aNil))) (mOp oPow (mVal (.int 10)) (mVal (.int 18)))))) (sSeq (sPut 0 (mOp oDiv (mCall cAbs (aCons (mVar 4) (aNil))) (mVar 1)) (mVal (.int 2)))
  (sRet (mOp oMod (mCall cAbs (aCons (mVar 4) (aNil))) (mVar 1)))) (sNext))
  (sSeq (sSet 5 (mOp oMod (mOp oPow (mOp oAdd (mOp oAdd (mOp oAdd (mOp oMod (mVar 4) (mVal (.int 2147483563))) (mOp oMul (mOp oMul (mVal (.int 50021)) (mVar 3)) (mVar 3))) (mOp oMul (mVal (.int 70009)) (mVar 3))) (mVal (.int 37))) (mVal (.int 3))) (mVal (.int 2147483647))))
  (sSeq (sSet 5 (mOp oMod (mOp oPow (mOp oAdd (mOp oMul (mVar 5) (mOp oAdd (mOp oMul (mVal (.int 5)) (mVar 3)) (mVal (.int 2)))) (mVal (.int 80039))) (mVal (.int 3))) (mVal (.int 2147483587))))
  (sRet (mOp oMod (mOp oDiv (mVar 5) (mVal (.int 32))) (mVar 1))))))))))
theorem me__law_draw : mi__law_draw = m__law_draw := by rfl
theorem d__law_draw {P : Program} {w : World} {K : Fg} {mg : Str → Option Value} {base : Heap} {f : Addr} {cdv : Value} {A : Around} {outer : List Env} {s : Shared} {H : Hp} {E : XK} {k : Nat} (g : Gb w K mg)
    (hr : Room k (A.deeper (envOfC "_law_draw" (defScope s__law_draw) s.heap.objs.size f cdv))) (hgu : A.guards = some []) :
    DSs (cxOf CX0 P w K mg base N__law_draw "_law_draw" (defScope s__law_draw) f cdv A outer s H E).nox (defBody s__law_draw) (m__law_draw) :=
  have nd := sc__law_draw.nd
  have h : DSs (cxOf CX0 P w K mg base N__law_draw "_law_draw" (defScope s__law_draw) f cdv A outer s H E).nox (defBody s__law_draw) (mi__law_draw) :=
  (dss_cons (ds_if (dtc opd_gt (de_ixA (u1 hr) (dv 0) (de_int)) (de_int)) (dss_cons (dst 2 nd (de_op opd_mod (de_ixA (u1 hr) (dv 0) (de_int)) (dv 1)))
  (dss_cons (ds_put (i := 0) (by rfl) (by first | exact .inl rfl | exact .inr (.inl rfl) | exact .inr (.inr rfl)) (de_op opd_div (de_ixA (u1 hr) (dv 0) (de_int)) (dv 1)) (de_int))
  (dss_one (ds_ret (dv 2))))) (dss_nil))
  (dss_cons (dst 3 nd (de_ixA (u1 hr) (dv 0) (de_int)))
  (dss_cons (ds_put (i := 0) (by rfl) (by first | exact .inl rfl | exact .inr (.inl rfl) | exact .inr (.inr rfl)) (de_op opd_add (dv 3) (de_int)) (de_int))
  (dss_cons (dst 4 nd (de_op opd_add (de_op opd_mul (de_int) (dv 3)) (de_int)))
  (dss_cons (ds_if (dtc (opd_neU (u64 hr)) (de_ixA (u1 hr) (dv 0) (de_int)) (de_lst (da_nil))) (dss_one (dst 4 nd (de_ixA (u1 hr) (de_ixA (u1 hr) (dv 0) (de_int)) (de_op opd_mod (dv 3) (de_callB calld_len (by rfl) g.b_len (by rfl) (da_cons (de_ixA (u1 hr) (dv 0) (de_int)) (da_nil))))))) (dss_nil))
  (dss_cons (ds_if (dt_w (dw_and (dtc opd_lt (dv 3) (de_callB calld_len (by rfl) g.b_len (by rfl) (da_cons (de_ixA (u1 hr) (dv 0) (de_int)) (da_nil)))) (dw_and1 (dtc opd_ge (de_callB calld_abs (by rfl) g.b_abs (by rfl) (da_cons (dv 4) (da_nil))) (de_op opd_pow (de_int) (de_int)))))) (dss_cons (ds_put (i := 0) (by rfl) (by first | exact .inl rfl | exact .inr (.inl rfl) | exact .inr (.inr rfl)) (de_op opd_div (de_callB calld_abs (by rfl) g.b_abs (by rfl) (da_cons (dv 4) (da_nil))) (dv 1)) (de_int))
  (dss_one (ds_ret (de_op opd_mod (de_callB calld_abs (by rfl) g.b_abs (by rfl) (da_cons (dv 4) (da_nil))) (dv 1))))) (dss_nil))
  (dss_cons (dst 5 nd (de_op opd_mod (de_op opd_pow (de_op opd_add (de_op opd_add (de_op opd_add (de_op opd_mod (dv 4) (de_int)) (de_op opd_mul (de_op opd_mul (de_int) (dv 3)) (dv 3))) (de_op opd_mul (de_int) (dv 3))) (de_int)) (de_int)) (de_int)))
  (dss_cons (dst 5 nd (de_op opd_mod (de_op opd_pow (de_op opd_add (de_op opd_mul (dv 5) (de_op opd_add (de_op opd_mul (de_int) (dv 3)) (de_int))) (de_int)) (de_int)) (de_int)))
  (dss_one (ds_ret (de_op opd_mod (de_op opd_div (dv 5) (de_int)) (dv 1))))))))))))
  me__law_draw ▸ h
def N__law_all : List Str := ["_law_found"]
theorem sc__law_all : FnScope N__law_all [] (defScope s__law_all) := ⟨rfl, rfl, rfl, by decide +kernel, rfl, by decide +kernel, by decide +kernel⟩
def m__law_all_0 : MS :=
  sRet (mOp oAdd (mVar 0) (mVal (.str ("[\\]^_`abcdefghijklmnopqrstuvwxyz{|}~" : Str))))
def m__law_all_1 : MS :=
  sSeq (sSet 0 (mVal (.str ("\n !\"#$&'()*+,-./0123456789:;<=>?@ABCDEFGHIJKLMNOPQRSTUVWXYZ" : Str))))
  (m__law_all_0)
def m__law_all : MS := m__law_all_1
def mi__law_all : MS :=
  sSeq (sSet 0 (mVal (.str ("\n !\"#$&'()*+,-./0123456789:;<=>?@ABCDEFGHIJKLMNOPQRSTUVWXYZ" : Str))))
  (sRet (mOp oAdd (mVar 0) (mVal (.str ("[\\]^_`abcdefghijklmnopqrstuvwxyz{|}~" : Str)))))
theorem me__law_all : mi__law_all = m__law_all := by rfl
theorem d__law_all {P : Program} {w : World} {K : Fg} {mg : Str → Option Value} {base : Heap} {f : Addr} {cdv : Value} {A : Around} {outer : List Env} {s : Shared} {H : Hp} {E : XK} {k : Nat} (g : Gb w K mg)
    (hr : Room k (A.deeper (envOfC "_law_all" (defScope s__law_all) s.heap.objs.size f cdv))) (hgu : A.guards = some []) :
    DSs (cxOf CX0 P w K mg base N__law_all "_law_all" (defScope s__law_all) f cdv A outer s H E).nox (defBody s__law_all) (m__law_all) :=
  have nd := sc__law_all.nd
  have h : DSs (cxOf CX0 P w K mg base N__law_all "_law_all" (defScope s__law_all) f cdv A outer s H E).nox (defBody s__law_all) (mi__law_all) :=
  (dss_cons (dst 0 nd (de_str))
  (dss_one (ds_ret (de_op opd_add (dv 0) (de_str)))))
  me__law_all ▸ h
def N__law_signs : List Str := ["_law_pen", "_law_every", "_law_way", "_law_at", "_law_some", "_law_sign"]
theorem sc__law_signs : FnScope N__law_signs ["_law_pen"] (defScope s__law_signs) := ⟨rfl, rfl, rfl, by decide +kernel, rfl, by decide +kernel, by decide +kernel⟩
def m__law_signs_0 (c__law_all : Ct) (c__law_draw : Ct) : MS :=
  sRet (mOp oIxA (mLst (aCons (mVal (.str ("a" : Str))) (aCons (mVal (.str ("ab" : Str))) (aCons (mVal (.str ("b" : Str))) (aCons (mVal (.str ("abc" : Str))) (aCons (mVal (.str ("c" : Str))) (aCons (mVal (.str (" " : Str))) (aCons (mVal (.str ("\n" : Str))) (aCons (mVal (.str ("\n a" : Str))) (aNil)))))))))) (mFnK c__law_draw (pick [(false, 0), (false, 1)]) 2 0 (aCons (mVar 0) (aCons (mVal (.int 8)) (aNil))) (aNil)))
def m__law_signs_1 (c__law_all : Ct) (c__law_draw : Ct) : MS :=
  sRet (mSl (mVar 1) (oSome (mVar 3)) (oSome (mOp oAdd (mOp oAdd (mVar 3) (mVal (.int 1))) (mFnK c__law_draw (pick [(false, 0), (false, 1)]) 2 0 (aCons (mVar 0) (aCons (mVal (.int 94)) (aNil))) (aNil)))))
def m__law_signs_2 (c__law_all : Ct) (c__law_draw : Ct) : MS :=
  sSeq (sSet 3 (mFnK c__law_draw (pick [(false, 0), (false, 1)]) 2 0 (aCons (mVar 0) (aCons (mVal (.int 95)) (aNil))) (aNil)))
  (m__law_signs_1 c__law_all c__law_draw)
def m__law_signs_3 (c__law_all : Ct) (c__law_draw : Ct) : MS :=
  sRet (mOp oIxA (mLst (aCons (mSl (mVar 4) (oNone) (oSome (mVal (.int 94)))) (aCons (mVal (.str ("]^" : Str))) (aNil)))) (mCall cInt (aCons (mOp oEq (mVar 4) (mVal (.str ("" : Str)))) (aNil))))
def m__law_signs_4 (c__law_all : Ct) (c__law_draw : Ct) : MS :=
  sSeq (sSet 4 (mSm jJoin (mVal (.str ("" : Str))) (aCons (mLc [5] (iOf (mVar 1)) (gNm 5) (mTest (mOp oEq (mFnK c__law_draw (pick [(false, 0), (false, 1)]) 2 0 (aCons (mVar 0) (aCons (mVal (.int 8)) (aNil))) (aNil)) (mVal (.int 0)))) (mVar 5)) (aNil))))
  (m__law_signs_3 c__law_all c__law_draw)
def m__law_signs_5 (c__law_all : Ct) (c__law_draw : Ct) : MS :=
  sSeq (sIf (mTest (mOp oEq (mVar 2) (mVal (.int 2)))) (m__law_signs_2 c__law_all c__law_draw) (sNext))
  (m__law_signs_4 c__law_all c__law_draw)
def m__law_signs_6 (c__law_all : Ct) (c__law_draw : Ct) : MS :=
  sSeq (sIf (mTest (mOp oLt (mVar 2) (mVal (.int 2)))) (m__law_signs_0 c__law_all c__law_draw) (sNext))
  (m__law_signs_5 c__law_all c__law_draw)
def m__law_signs_7 (c__law_all : Ct) (c__law_draw : Ct) : MS :=
  sSeq (sSet 2 (mFnK c__law_draw (pick [(false, 0), (false, 1)]) 2 0 (aCons (mVar 0) (aCons (mVal (.int 4)) (aNil))) (aNil)))
  (m__law_signs_6 c__law_all c__law_draw)
def m__law_signs_8 (c__law_all : Ct) (c__law_draw : Ct) : MS :=
  sSeq (sSet 1 (mFnK c__law_all (pick []) 0 0 (aNil) (aNil)))
  (m__law_signs_7 c__law_all c__law_draw)
def m__law_signs (c__law_all : Ct) (c__law_draw : Ct) : MS := m__law_signs_8 c__law_all c__law_draw
def mi__law_signs (c__law_all : Ct) (c__law_draw : Ct) : MS :=
  sSeq (sSet 1 (mFnK c__law_all (pick []) 0 0 (aNil) (aNil)))
  (sSeq (sSet 2 (mFnK c__law_draw (pick [(false, 0), (false, 1)]) 2 0 (aCons (mVar 0) (aCons (mVal (.int 4)) (aNil))) (aNil)))
  (sSeq (sIf (mTest (mOp oLt (mVar 2) (mVal (.int 2)))) (sRet (mOp oIxA (mLst (aCons (mVal (.str ("a" : Str))) (aCons (mVal (.str ("ab" : Str))) (aCons (mVal (.str ("b" : Str))) (aCons (mVal (.str ("abc" : Str))) (aCons (mVal (.str ("c" : Str))) (aCons (mVal (.str (" " : Str))) (aCons (mVal (.str ("\n" : Str))) (aCons (mVal (.str ("\n a" : Str))) (aNil)))))))))) (mFnK c__law_draw (pick [(false, 0), (false, 1)]) 2 0 (aCons (mVar 0) (aCons (mVal (.int 8)) (aNil))) (aNil)))) (sNext))
  (sSeq (sIf (mTest (mOp oEq (mVar 2) (mVal (.int 2)))) (sSeq (sSet 3 (mFnK c__law_draw (pick [(false, 0), (false, 1)]) 2 0 (aCons (mVar 0) (aCons (mVal (.int 95)) (aNil))) (aNil)))
  (sRet (mSl (mVar 1) (oSome (mVar 3)) (oSome (mOp oAdd (mOp oAdd (mVar 3) (mVal (.int 1))) (mFnK c__law_draw (pick [(false, 0), (false, 1)]) 2 0 (aCons (mVar 0) (aCons (mVal (.int 94)) (aNil))) (aNil))))))) (sNext))
  (sSeq (sSet 4 (mSm jJoin (mVal (.str ("" : Str))) (aCons (mLc [5] (iOf (mVar 1)) (gNm 5) (mTest (mOp oEq (mFnK c__law_draw (pick [(false, 0), (false, 1)]) 2 0 (aCons (mVar 0) (aCons (mVal (.int 8)) (aNil))) (aNil)) (mVal (.int 0)))) (mVar 5)) (aNil))))
  (sRet (mOp oIxA (mLst (aCons (mSl (mVar 4) (oNone) (oSome (mVal (.int 94)))) (aCons (mVal (.str ("]^" : Str))) (aNil)))) (mCall cInt (aCons (mOp oEq (mVar 4) (mVal (.str ("" : Str)))) (aNil)))))))))
theorem me__law_signs (c__law_all : Ct) (c__law_draw : Ct) : mi__law_signs c__law_all c__law_draw = m__law_signs c__law_all c__law_draw := by rfl
theorem d__law_signs {P : Program} {w : World} {K : Fg} {mg : Str → Option Value} {base : Heap} {f : Addr} {cdv : Value} {A : Around} {outer : List Env} {s : Shared} {H : Hp} {E : XK} {k : Nat} {c__law_all c__law_draw : Ct} (g : Gb w K mg)
    (h__law_all_0 : Def P w K mg base k "_law_all" 0 [] (pick []) c__law_all)
    (h__law_draw_2 : Def P w K mg base k "_law_draw" 2 [] (pick [(false, 0), (false, 1)]) c__law_draw)
    (hr : Room k (A.deeper (envOfC "_law_signs" (defScope s__law_signs) s.heap.objs.size f cdv))) (hgu : A.guards = some []) :
    DSs (cxOf CX0 P w K mg base N__law_signs "_law_signs" (defScope s__law_signs) f cdv A outer s H E).nox (defBody s__law_signs) (m__law_signs c__law_all c__law_draw) :=
  have nd := sc__law_signs.nd
  have h : DSs (cxOf CX0 P w K mg base N__law_signs "_law_signs" (defScope s__law_signs) f cdv A outer s H E).nox (defBody s__law_signs) (mi__law_signs c__law_all c__law_draw) :=
  (dss_cons (dst 1 nd (de_def0 h__law_all_0 hr hgu (by rfl)))
  (dss_cons (dst 2 nd (de_def h__law_draw_2 hr hgu (by rfl) (da_cons (dv 0) (da_cons (de_int) (da_nil)))))
  (dss_cons (ds_if (dtc opd_lt (dv 2) (de_int)) (dss_one (ds_ret (de_ixA (u1 hr) (de_lst (da_cons (de_str) (da_cons (de_str) (da_cons (de_str) (da_cons (de_str) (da_cons (de_str) (da_cons (de_str) (da_cons (de_str) (da_cons (de_str) (da_nil)))))))))) (de_def h__law_draw_2 hr hgu (by rfl) (da_cons (dv 0) (da_cons (de_int) (da_nil))))))) (dss_nil))
  (dss_cons (ds_if (dtc (opd_eq (u64 hr)) (dv 2) (de_int)) (dss_cons (dst 3 nd (de_def h__law_draw_2 hr hgu (by rfl) (da_cons (dv 0) (da_cons (de_int) (da_nil)))))
  (dss_one (ds_ret (de_slice (dv 1) (do_some (dv 3)) (do_some (de_op opd_add (de_op opd_add (dv 3) (de_int)) (de_def h__law_draw_2 hr hgu (by rfl) (da_cons (dv 0) (da_cons (de_int) (da_nil)))))))))) (dss_nil))
  (dss_cons (dst 4 nd (de_sm smd_join PySem.F.slot_str_join PySem.F.type_str_join (de_str) (da_cons (de_lc (own := [(("_law_sign" : Str), 5)]) (by rfl) nd (di_of (dv 1)) (blkOk_by (N := N__law_signs) (sc := defScope s__law_signs) (own := [(("_law_sign" : Str), 5)]) (by decide +kernel)) (fun _ _ _ _ _ => dgn 5 nd) (fun _ _ _ _ _ => dts_one (dtc (opd_eq (u64 hr)) (de_def h__law_draw_2 hr hgu (by rfl) (da_cons (dv 0) (da_cons (de_int) (da_nil)))) (de_int))) (fun _ _ _ _ _ => dv 5)) (da_nil))))
  (dss_one (ds_ret (de_ixA (u1 hr) (de_lst (da_cons (de_slice (dv 4) (do_none) (do_some (de_int))) (da_cons (de_str) (da_nil)))) (de_callTy calld_int (by rfl) g.b_int (by rfl) (da_cons (dec (opd_eq (u64 hr)) (dv 4) (de_str)) (da_nil)))))))))))
  me__law_signs c__law_all c__law_draw ▸ h
def N__law_names : List Str := ["_law_pen", "_law_many", "_law_letters", "_law_base", "_law_k", "_law_spot", "_law_turn", "_law_leap", "_law_found", "_law_words", "_law_word"]
theorem sc__law_names : FnScope N__law_names ["_law_pen", "_law_many"] (defScope s__law_names) := ⟨rfl, rfl, rfl, by decide +kernel, rfl, by decide +kernel, by decide +kernel⟩
def m__law_names_0 (c__law_draw : Ct) : MS :=
  sIf (mTest (mOp oNotIn (mVar 10) (mVar 8))) (sPut 8 (mVar 10) (mVar 4)) (sNext)
def m__law_names_1 (c__law_draw : Ct) : MS :=
  sSeq (sSet 10 (mOp oIxA (mVar 9) (mFnK c__law_draw (pick [(false, 0), (false, 1)]) 2 0 (aCons (mVar 0) (aCons (mVal (.int 10)) (aNil))) (aNil))))
  (m__law_names_0 c__law_draw)
def m__law_names_2 (c__law_draw : Ct) : MS :=
  sFor (iRange1 (mVar 1)) (gNm 4)
  (m__law_names_1 c__law_draw)
def m__law_names_3 (c__law_draw : Ct) : MS :=
  sRet (mVar 8)
def m__law_names_4 (c__law_draw : Ct) : MS :=
  sSeq (sIf (mTest (mOp oEq (mFnK c__law_draw (pick [(false, 0), (false, 1)]) 2 0 (aCons (mVar 0) (aCons (mVal (.int 4)) (aNil))) (aNil)) (mVal (.int 0)))) (m__law_names_2 c__law_draw) (sNext))
  (m__law_names_3 c__law_draw)
def m__law_names_5 (c__law_draw : Ct) : MS :=
  sSeq (sSet 9 (mLst (aCons (mVal (.str ("name" : Str))) (aCons (mVal (.str ("row" : Str))) (aCons (mVal (.str ("many" : Str))) (aCons (mVal (.str ("not" : Str))) (aCons (mVal (.str ("again" : Str))) (aCons (mVal (.str ("hold" : Str))) (aCons (mVal (.str ("text" : Str))) (aCons (mVal (.str ("drop" : Str))) (aCons (mVal (.str ("count" : Str))) (aCons (mVal (.str ("start" : Str))) (aNil)))))))))))))
  (m__law_names_4 c__law_draw)
def m__law_names_6 (c__law_draw : Ct) : MS :=
  sSeq (sSet 8 (mLc [4] (iRange1 (mVar 1)) (gNm 4) (bYes) (mOp oAdd (mOp oAdd (mSl (mVar 3) (oNone) (oSome (mVar 5))) (mOp oIxA (mVar 2) (mOp oMod (mOp oAdd (mVar 6) (mOp oMul (mVar 7) (mVar 4))) (mVal (.int 26))))) (mSl (mVar 3) (oSome (mVar 5)) (oNone)))))
  (m__law_names_5 c__law_draw)
def m__law_names_7 (c__law_draw : Ct) : MS :=
  sSeq (sSet 7 (mOp oIxA (mLst (aCons (mVal (.int 1)) (aCons (mVal (.int 3)) (aCons (mVal (.int 5)) (aCons (mVal (.int 7)) (aCons (mVal (.int 9)) (aCons (mVal (.int 11)) (aNil)))))))) (mFnK c__law_draw (pick [(false, 0), (false, 1)]) 2 0 (aCons (mVar 0) (aCons (mVal (.int 6)) (aNil))) (aNil))))
  (m__law_names_6 c__law_draw)
def m__law_names_8 (c__law_draw : Ct) : MS :=
  sSeq (sSet 6 (mFnK c__law_draw (pick [(false, 0), (false, 1)]) 2 0 (aCons (mVar 0) (aCons (mVal (.int 26)) (aNil))) (aNil)))
  (m__law_names_7 c__law_draw)
def m__law_names_9 (c__law_draw : Ct) : MS :=
  sSeq (sSet 5 (mFnK c__law_draw (pick [(false, 0), (false, 1)]) 2 0 (aCons (mVar 0) (aCons (mOp oAdd (mCall cLen (aCons (mVar 3) (aNil))) (mVal (.int 1))) (aNil))) (aNil)))
  (m__law_names_8 c__law_draw)
def m__law_names_10 (c__law_draw : Ct) : MS :=
  sSeq (sSet 3 (mSm jJoin (mVal (.str ("" : Str))) (aCons (mLc [4] (iRange1 (mOp oIxA (mLst (aCons (mVal (.int 0)) (aCons (mVal (.int 7)) (aCons (mFnK c__law_draw (pick [(false, 0), (false, 1)]) 2 0 (aCons (mVar 0) (aCons (mVal (.int 8)) (aNil))) (aNil)) (aNil))))) (mFnK c__law_draw (pick [(false, 0), (false, 1)]) 2 0 (aCons (mVar 0) (aCons (mVal (.int 3)) (aNil))) (aNil)))) (gNm 4) (bYes) (mOp oIxA (mVar 2) (mFnK c__law_draw (pick [(false, 0), (false, 1)]) 2 0 (aCons (mVar 0) (aCons (mVal (.int 26)) (aNil))) (aNil)))) (aNil))))
  (m__law_names_9 c__law_draw)
def m__law_names_11 (c__law_draw : Ct) : MS :=
  sSeq (sSet 2 (mVal (.str ("abcdefghijklmnopqrstuvwxyz" : Str))))
  (m__law_names_10 c__law_draw)
def m__law_names (c__law_draw : Ct) : MS := m__law_names_11 c__law_draw
def mi__law_names (c__law_draw : Ct) : MS :=
  sSeq (sSet 2 (mVal (.str ("abcdefghijklmnopqrstuvwxyz" : Str))))
  (sSeq (sSet 3 (mSm jJoin (mVal (.str ("" : Str))) (aCons (mLc [4] (iRange1 (mOp oIxA (mLst (aCons (mVal (.int 0)) (aCons (mVal (.int 7)) (aCons (mFnK c__law_draw (pick [(false, 0), (false, 1)]) 2 0 (aCons (mVar 0) (aCons (mVal (.int 8)) (aNil))) (aNil)) (aNil))))) (mFnK c__law_draw (pick [(false, 0), (false, 1)]) 2 0 (aCons (mVar 0) (aCons (mVal (.int 3)) (aNil))) (aNil)))) (gNm 4) (bYes) (mOp oIxA (mVar 2) (mFnK c__law_draw (pick [(false, 0), (false, 1)]) 2 0 (aCons (mVar 0) (aCons (mVal (.int 26)) (aNil))) (aNil)))) (aNil))))
  (sSeq (sSet 5 (mFnK c__law_draw (pick [(false, 0), (false, 1)]) 2 0 (aCons (mVar 0) (aCons (mOp oAdd (mCall cLen (aCons (mVar 3) (aNil))) (mVal (.int 1))) (aNil))) (aNil)))
  (sSeq (sSet 6 (mFnK c__law_draw (pick [(false, 0), (false, 1)]) 2 0 (aCons (mVar 0) (aCons (mVal (.int 26)) (aNil))) (aNil)))
  (sSeq (sSet 7 (mOp oIxA (mLst (aCons (mVal (.int 1)) (aCons (mVal (.int 3)) (aCons (mVal (.int 5)) (aCons (mVal (.int 7)) (aCons (mVal (.int 9)) (aCons (mVal (.int 11)) (aNil)))))))) (mFnK c__law_draw (pick [(false, 0), (false, 1)]) 2 0 (aCons (mVar 0) (aCons (mVal (.int 6)) (aNil))) (aNil))))
  (sSeq (sSet 8 (mLc [4] (iRange1 (mVar 1)) (gNm 4) (bYes) (mOp oAdd (mOp oAdd (mSl (mVar 3) (oNone) (oSome (mVar 5))) (mOp oIxA (mVar 2) (mOp oMod (mOp oAdd (mVar 6) (mOp oMul (mVar 7) (mVar 4))) (mVal (.int 26))))) (mSl (mVar 3) (oSome (mVar 5)) (oNone)))))
  (sSeq (sSet 9 (mLst (aCons (mVal (.str ("name" : Str))) (aCons (mVal (.str ("row" : Str))) (aCons (mVal (.str ("many" : Str))) (aCons (mVal (.str ("not" : Str))) (aCons (mVal (.str ("again" : Str))) (aCons (mVal (.str ("hold" : Str))) (aCons (mVal (.str ("text" : Str))) (aCons (mVal (.str ("drop" : Str))) (aCons (mVal (.str ("count" : Str))) (aCons (mVal (.str ("start" : Str))) (aNil)))))))))))))
  (sSeq (sIf (mTest (mOp oEq (mFnK c__law_draw (pick [(false, 0), (false, 1)]) 2 0 (aCons (mVar 0) (aCons (mVal (.int 4)) (aNil))) (aNil)) (mVal (.int 0)))) (sFor (iRange1 (mVar 1)) (gNm 4)
  (sSeq (sSet 10 (mOp oIxA (mVar 9) (mFnK c__law_draw (pick [(false, 0), (false, 1)]) 2 0 (aCons (mVar 0) (aCons (mVal (.int 10)) (aNil))) (aNil))))
  (sIf (mTest (mOp oNotIn (mVar 10) (mVar 8))) (sPut 8 (mVar 10) (mVar 4)) (sNext)))) (sNext))
  (sRet (mVar 8)))))))))
theorem me__law_names (c__law_draw : Ct) : mi__law_names c__law_draw = m__law_names c__law_draw := by rfl
theorem d__law_names {P : Program} {w : World} {K : Fg} {mg : Str → Option Value} {base : Heap} {f : Addr} {cdv : Value} {A : Around} {outer : List Env} {s : Shared} {H : Hp} {E : XK} {k : Nat} {c__law_draw : Ct} (g : Gb w K mg)
    (h__law_draw_2 : Def P w K mg base k "_law_draw" 2 [] (pick [(false, 0), (false, 1)]) c__law_draw)
    (hr : Room k (A.deeper (envOfC "_law_names" (defScope s__law_names) s.heap.objs.size f cdv))) (hgu : A.guards = some []) :
    DSs (cxOf CX0 P w K mg base N__law_names "_law_names" (defScope s__law_names) f cdv A outer s H E).nox (defBody s__law_names) (m__law_names c__law_draw) :=
  have nd := sc__law_names.nd
  have h : DSs (cxOf CX0 P w K mg base N__law_names "_law_names" (defScope s__law_names) f cdv A outer s H E).nox (defBody s__law_names) (mi__law_names c__law_draw) :=
  (dss_cons (dst 2 nd (de_str))
  (dss_cons (dst 3 nd (de_sm smd_join PySem.F.slot_str_join PySem.F.type_str_join (de_str) (da_cons (de_lc (own := [(("_law_k" : Str), 4)]) (by rfl) nd (di_range1 (by rfl) g.b_range (de_ixA (u1 hr) (de_lst (da_cons (de_int) (da_cons (de_int) (da_cons (de_def h__law_draw_2 hr hgu (by rfl) (da_cons (dv 0) (da_cons (de_int) (da_nil)))) (da_nil))))) (de_def h__law_draw_2 hr hgu (by rfl) (da_cons (dv 0) (da_cons (de_int) (da_nil)))))) (blkOk_by (N := N__law_names) (sc := defScope s__law_names) (own := [(("_law_k" : Str), 4)]) (by decide +kernel)) (fun _ _ _ _ _ => dgn 4 nd) (fun _ _ _ _ _ => dts_nil) (fun _ _ _ _ _ => de_ixA (u1 hr) (dv 2) (de_def h__law_draw_2 hr hgu (by rfl) (da_cons (dv 0) (da_cons (de_int) (da_nil)))))) (da_nil))))
  (dss_cons (dst 5 nd (de_def h__law_draw_2 hr hgu (by rfl) (da_cons (dv 0) (da_cons (de_op opd_add (de_callB calld_len (by rfl) g.b_len (by rfl) (da_cons (dv 3) (da_nil))) (de_int)) (da_nil)))))
  (dss_cons (dst 6 nd (de_def h__law_draw_2 hr hgu (by rfl) (da_cons (dv 0) (da_cons (de_int) (da_nil)))))
  (dss_cons (dst 7 nd (de_ixA (u1 hr) (de_lst (da_cons (de_int) (da_cons (de_int) (da_cons (de_int) (da_cons (de_int) (da_cons (de_int) (da_cons (de_int) (da_nil)))))))) (de_def h__law_draw_2 hr hgu (by rfl) (da_cons (dv 0) (da_cons (de_int) (da_nil))))))
  (dss_cons (ds_setLc (i := 8) (own := [(("_law_k" : Str), 4)]) (by rfl) nd (by rfl) (by rfl) (by rfl) (di_range1 (by rfl) g.b_range (dv 1)) (blkOk_by (N := N__law_names) (sc := defScope s__law_names) (own := [(("_law_k" : Str), 4)]) (by decide +kernel)) (fun _ _ _ _ _ => dgn 4 nd) (fun _ _ _ _ _ => dts_nil) (fun _ _ _ _ _ => de_op opd_add (de_op opd_add (de_slice (dv 3) (do_none) (do_some (dv 5))) (de_ixA (u1 hr) (dv 2) (de_op opd_mod (de_op opd_add (dv 6) (de_op opd_mul (dv 7) (dv 4))) (de_int)))) (de_slice (dv 3) (do_some (dv 5)) (do_none))))
  (dss_cons (dst 9 nd (de_lst (da_cons (de_str) (da_cons (de_str) (da_cons (de_str) (da_cons (de_str) (da_cons (de_str) (da_cons (de_str) (da_cons (de_str) (da_cons (de_str) (da_cons (de_str) (da_cons (de_str) (da_nil)))))))))))))
  (dss_cons (ds_if (dtc (opd_eq (u64 hr)) (de_def h__law_draw_2 hr hgu (by rfl) (da_cons (dv 0) (da_cons (de_int) (da_nil)))) (de_int)) (dss_one (ds_for (vs := [4]) PassesOwn.never (by rfl) (di_range1 (by rfl) g.b_range (dv 1)) (dgn 4 nd)
  (dss_cons (dst 10 nd (de_ixA (u1 hr) (dv 9) (de_def h__law_draw_2 hr hgu (by rfl) (da_cons (dv 0) (da_cons (de_int) (da_nil))))))
  (dss_one (ds_if (dtc (opd_notin (u65 hr)) (dv 10) (dv 8)) (dss_one (ds_put (i := 8) (by rfl) (by first | exact .inl rfl | exact .inr (.inl rfl) | exact .inr (.inr rfl)) (dv 10) (dv 4))) (dss_nil)))))) (dss_nil))
  (dss_one (ds_ret (dv 8)))))))))))
  me__law_names c__law_draw ▸ h
def N__law_leaf : List Str := ["_law_pen", "_law_names_here", "_law_way", "_law_name", "_law_some"]
theorem sc__law_leaf : FnScope N__law_leaf ["_law_pen", "_law_names_here"] (defScope s__law_leaf) := ⟨rfl, rfl, rfl, by decide +kernel, rfl, by decide +kernel, by decide +kernel⟩
def m__law_leaf_0 (c__law_draw : Ct) (c__law_signs : Ct) : MS :=
  sRet (mOp oIxA (mOp oAdd (mVar 4) (mLst (aCons (mTup (aCons (mVal (.str ("again" : Str))) (aCons (mVar 3) (aNil)))) (aCons (mTup (aCons (mVal (.str ("sign" : Str))) (aCons (mVal (.str ("ab" : Str))) (aNil)))) (aCons (mTup (aCons (mVal (.str ("but" : Str))) (aCons (mVal (.str ("" : Str))) (aNil)))) (aNil)))))) (mVar 2))
def m__law_leaf_1 (c__law_draw : Ct) (c__law_signs : Ct) : MS :=
  sSeq (sSet 4 (mLst (aCons (mTup (aCons (mVal (.str ("sign" : Str))) (aCons (mFnK c__law_signs (pick [(false, 0)]) 1 0 (aCons (mVar 0) (aNil)) (aNil)) (aNil)))) (aCons (mTup (aCons (mVal (.str ("but" : Str))) (aCons (mSl (mFnK c__law_signs (pick [(false, 0)]) 1 0 (aCons (mVar 0) (aNil)) (aNil)) (oNone) (oSome (mVal (.int 94)))) (aNil)))) (aCons (mTup (aCons (mVal (.str ("name" : Str))) (aCons (mVar 3) (aNil)))) (aCons (mTup (aCons (mVal (.str ("nothing" : Str))) (aNil))) (aCons (mTup (aCons (mVal (.str ("never" : Str))) (aNil))) (aNil))))))))
  (m__law_leaf_0 c__law_draw c__law_signs)
def m__law_leaf_2 (c__law_draw : Ct) (c__law_signs : Ct) : MS :=
  sSeq (sSet 3 (mOp oIxA (mVar 1) (mFnK c__law_draw (pick [(false, 0), (false, 1)]) 2 0 (aCons (mVar 0) (aCons (mSel 1 (mDLen 1) (mCall cLen (aCons (mVar 1) (aNil)))) (aNil))) (aNil))))
  (m__law_leaf_1 c__law_draw c__law_signs)
def m__law_leaf_3 (c__law_draw : Ct) (c__law_signs : Ct) : MS :=
  sSeq (sSet 2 (mFnK c__law_draw (pick [(false, 0), (false, 1)]) 2 0 (aCons (mVar 0) (aCons (mVal (.int 8)) (aNil))) (aNil)))
  (m__law_leaf_2 c__law_draw c__law_signs)
def m__law_leaf (c__law_draw : Ct) (c__law_signs : Ct) : MS := m__law_leaf_3 c__law_draw c__law_signs
def mi__law_leaf (c__law_draw : Ct) (c__law_signs : Ct) : MS :=
  sSeq (sSet 2 (mFnK c__law_draw (pick [(false, 0), (false, 1)]) 2 0 (aCons (mVar 0) (aCons (mVal (.int 8)) (aNil))) (aNil)))
  (sSeq (sSet 3 (mOp oIxA (mVar 1) (mFnK c__law_draw (pick [(false, 0), (false, 1)]) 2 0 (aCons (mVar 0) (aCons (mSel 1 (mDLen 1) (mCall cLen (aCons (mVar 1) (aNil)))) (aNil))) (aNil))))
  (sSeq (sSet 4 (mLst (aCons (mTup (aCons (mVal (.str ("sign" : Str))) (aCons (mFnK c__law_signs (pick [(false, 0)]) 1 0 (aCons (mVar 0) (aNil)) (aNil)) (aNil)))) (aCons (mTup (aCons (mVal (.str ("but" : Str))) (aCons (mSl (mFnK c__law_signs (pick [(false, 0)]) 1 0 (aCons (mVar 0) (aNil)) (aNil)) (oNone) (oSome (mVal (.int 94)))) (aNil)))) (aCons (mTup (aCons (mVal (.str ("name" : Str))) (aCons (mVar 3) (aNil)))) (aCons (mTup (aCons (mVal (.str ("nothing" : Str))) (aNil))) (aCons (mTup (aCons (mVal (.str ("never" : Str))) (aNil))) (aNil))))))))
  (sRet (mOp oIxA (mOp oAdd (mVar 4) (mLst (aCons (mTup (aCons (mVal (.str ("again" : Str))) (aCons (mVar 3) (aNil)))) (aCons (mTup (aCons (mVal (.str ("sign" : Str))) (aCons (mVal (.str ("ab" : Str))) (aNil)))) (aCons (mTup (aCons (mVal (.str ("but" : Str))) (aCons (mVal (.str ("" : Str))) (aNil)))) (aNil)))))) (mVar 2)))))
theorem me__law_leaf (c__law_draw : Ct) (c__law_signs : Ct) : mi__law_leaf c__law_draw c__law_signs = m__law_leaf c__law_draw c__law_signs := by rfl
theorem d__law_leaf {P : Program} {w : World} {K : Fg} {mg : Str → Option Value} {base : Heap} {f : Addr} {cdv : Value} {A : Around} {outer : List Env} {s : Shared} {H : Hp} {E : XK} {k : Nat} {c__law_draw c__law_signs : Ct} (g : Gb w K mg)
    (h__law_draw_2 : Def P w K mg base k "_law_draw" 2 [] (pick [(false, 0), (false, 1)]) c__law_draw)
    (h__law_signs_1 : Def P w K mg base k "_law_signs" 1 [] (pick [(false, 0)]) c__law_signs)
    (hr : Room k (A.deeper (envOfC "_law_leaf" (defScope s__law_leaf) s.heap.objs.size f cdv))) (hgu : A.guards = some []) :
    DSs (cxOf CX0 P w K mg base N__law_leaf "_law_leaf" (defScope s__law_leaf) f cdv A outer s H E).nox (defBody s__law_leaf) (m__law_leaf c__law_draw c__law_signs) :=
  have nd := sc__law_leaf.nd
  have h : DSs (cxOf CX0 P w K mg base N__law_leaf "_law_leaf" (defScope s__law_leaf) f cdv A outer s H E).nox (defBody s__law_leaf) (mi__law_leaf c__law_draw c__law_signs) :=
  (dss_cons (dst 2 nd (de_def h__law_draw_2 hr hgu (by rfl) (da_cons (dv 0) (da_cons (de_int) (da_nil)))))
  (dss_cons (dst 3 nd (de_ixA (u1 hr) (dv 1) (de_def h__law_draw_2 hr hgu (by rfl) (da_cons (dv 0) (da_cons (de_sel (de_dlen (i := 1) (by rfl) g.b_len (by rfl) (by first | exact .inl rfl | exact .inr (.inl rfl) | exact .inr (.inr rfl))) (de_callB calld_len (by rfl) g.b_len (by rfl) (da_cons (dv 1) (da_nil)))) (da_nil))))))
  (dss_cons (dst 4 nd (de_lst (da_cons (de_tup (da_cons (de_str) (da_cons (de_def h__law_signs_1 hr hgu (by rfl) (da_cons (dv 0) (da_nil))) (da_nil)))) (da_cons (de_tup (da_cons (de_str) (da_cons (de_slice (de_def h__law_signs_1 hr hgu (by rfl) (da_cons (dv 0) (da_nil))) (do_none) (do_some (de_int))) (da_nil)))) (da_cons (de_tup (da_cons (de_str) (da_cons (dv 3) (da_nil)))) (da_cons (de_tup (da_cons (de_str) (da_nil))) (da_cons (de_tup (da_cons (de_str) (da_nil))) (da_nil))))))))
  (dss_one (ds_ret (de_ixA (u1 hr) (de_op opd_add (dv 4) (de_lst (da_cons (de_tup (da_cons (de_str) (da_cons (dv 3) (da_nil)))) (da_cons (de_tup (da_cons (de_str) (da_cons (de_str) (da_nil)))) (da_cons (de_tup (da_cons (de_str) (da_cons (de_str) (da_nil)))) (da_nil)))))) (dv 2)))))))
  me__law_leaf c__law_draw c__law_signs ▸ h
def N__law_reader : List Str := ["_law_pen", "_law_names_here", "_law_deep", "_law_left", "_law_way", "_law_name", "_law_many", "_law_parts_here", "_law_k", "_law_word"]
theorem sc__law_reader : FnScope N__law_reader ["_law_pen", "_law_names_here", "_law_deep", "_law_left"] (defScope s__law_reader) := ⟨rfl, rfl, rfl, by decide +kernel, rfl, by decide +kernel, by decide +kernel⟩
def m__law_reader_0 (c__law_draw : Ct) (c__law_leaf : Ct) (c__law_reader : Ct) : MS :=
  sRet (mFnK c__law_leaf (pick [(false, 0), (false, 1)]) 2 0 (aCons (mVar 0) (aCons (mVar 1) (aNil))) (aNil))
def m__law_reader_1 (c__law_draw : Ct) (c__law_leaf : Ct) (c__law_reader : Ct) : MS :=
  sSet 6 (mVal (.int 1))
def m__law_reader_2 (c__law_draw : Ct) (c__law_leaf : Ct) (c__law_reader : Ct) : MS :=
  sSeq (sSet 4 (mOp oAdd (mVal (.int 5)) (mVar 4)))
  (m__law_reader_1 c__law_draw c__law_leaf c__law_reader)
def m__law_reader_3 (c__law_draw : Ct) (c__law_leaf : Ct) (c__law_reader : Ct) : MS :=
  sRet (mTup (aCons (mOp oIxA (mLst (aCons (mVal (.str ("row" : Str))) (aCons (mVal (.str ("row" : Str))) (aCons (mVal (.str ("row" : Str))) (aCons (mVal (.str ("choice" : Str))) (aCons (mVal (.str ("choice" : Str))) (aNil))))))) (mVar 4)) (aCons (mVar 7) (aNil))))
def m__law_reader_4 (c__law_draw : Ct) (c__law_leaf : Ct) (c__law_reader : Ct) : MS :=
  sRet (mTup (aCons (mVar 9) (aCons (mOp oIxA (mLst (aCons (mVal (.str ("text" : Str))) (aCons (mVal (.str ("drop" : Str))) (aCons (mVal (.str ("count" : Str))) (aCons (mVal (.str ("number" : Str))) (aNil)))))) (mFnK c__law_draw (pick [(false, 0), (false, 1)]) 2 0 (aCons (mVar 0) (aCons (mVal (.int 4)) (aNil))) (aNil))) (aCons (mOp oIxA (mVar 7) (mVal (.int 0))) (aNil)))))
def m__law_reader_5 (c__law_draw : Ct) (c__law_leaf : Ct) (c__law_reader : Ct) : MS :=
  sRet (mIf (mTest (mOp oIn (mVar 9) (mTup (aCons (mVal (.str ("hold" : Str))) (aCons (mVal (.str ("tag" : Str))) (aNil)))))) (mTup (aCons (mVar 9) (aCons (mVar 5) (aCons (mOp oIxA (mVar 7) (mVal (.int 0))) (aNil))))) (mTup (aCons (mVar 9) (aCons (mOp oIxA (mVar 7) (mVal (.int 0))) (aNil)))))
def m__law_reader_6 (c__law_draw : Ct) (c__law_leaf : Ct) (c__law_reader : Ct) : MS :=
  sSeq (sIf (mTest (mOp oEq (mVar 9) (mVal (.str ("make" : Str))))) (m__law_reader_4 c__law_draw c__law_leaf c__law_reader) (sNext))
  (m__law_reader_5 c__law_draw c__law_leaf c__law_reader)
def m__law_reader_7 (c__law_draw : Ct) (c__law_leaf : Ct) (c__law_reader : Ct) : MS :=
  sSeq (sSet 9 (mOp oIxA (mLst (aCons (mVal (.str ("many" : Str))) (aCons (mVal (.str ("maybe" : Str))) (aCons (mVal (.str ("ahead" : Str))) (aCons (mVal (.str ("not" : Str))) (aCons (mVal (.str ("hold" : Str))) (aCons (mVal (.str ("tag" : Str))) (aCons (mVal (.str ("make" : Str))) (aNil))))))))) (mOp oSub (mVar 4) (mVal (.int 5)))))
  (m__law_reader_6 c__law_draw c__law_leaf c__law_reader)
def m__law_reader_8 (c__law_draw : Ct) (c__law_leaf : Ct) (c__law_reader : Ct) : MS :=
  sSeq (sIf (mTest (mOp oLt (mVar 4) (mVal (.int 5)))) (m__law_reader_3 c__law_draw c__law_leaf c__law_reader) (sNext))
  (m__law_reader_7 c__law_draw c__law_leaf c__law_reader)
def m__law_reader_9 (c__law_draw : Ct) (c__law_leaf : Ct) (c__law_reader : Ct) : MS :=
  sSeq (sSet 7 (mCall cTuple (aCons (mLc [8] (iRange1 (mVar 6)) (gNm 8) (bYes) (mFnK c__law_reader (pick [(false, 0), (false, 1), (false, 2), (false, 3)]) 4 0 (aCons (mVar 0) (aCons (mVar 1) (aCons (mOp oSub (mVar 2) (mVal (.int 1))) (aCons (mVar 3) (aNil))))) (aNil))) (aNil))))
  (m__law_reader_8 c__law_draw c__law_leaf c__law_reader)
def m__law_reader_10 (c__law_draw : Ct) (c__law_leaf : Ct) (c__law_reader : Ct) : MS :=
  sSeq (sAugS 3 pSub (mVal (.int 0)) (mVar 6))
  (m__law_reader_9 c__law_draw c__law_leaf c__law_reader)
def m__law_reader_11 (c__law_draw : Ct) (c__law_leaf : Ct) (c__law_reader : Ct) : MS :=
  sSeq (sIf (bAnd (mTest (mOp oLt (mVar 4) (mVal (.int 5)))) (mTest (mOp oLt (mVar 6) (mVal (.int 2))))) (m__law_reader_2 c__law_draw c__law_leaf c__law_reader) (sNext))
  (m__law_reader_10 c__law_draw c__law_leaf c__law_reader)
def m__law_reader_12 (c__law_draw : Ct) (c__law_leaf : Ct) (c__law_reader : Ct) : MS :=
  sSeq (sSet 6 (mCall cMinA (aCons (mOp oIxA (mLst (aCons (mOp oAdd (mVal (.int 2)) (mFnK c__law_draw (pick [(false, 0), (false, 1)]) 2 0 (aCons (mVar 0) (aCons (mVal (.int 5)) (aNil))) (aNil))) (aCons (mVal (.int 1)) (aNil)))) (mCall cInt (aCons (mOp oGt (mVar 4) (mVal (.int 4))) (aNil)))) (aCons (mOp oIxA (mVar 3) (mVal (.int 0))) (aNil)))))
  (m__law_reader_11 c__law_draw c__law_leaf c__law_reader)
def m__law_reader_13 (c__law_draw : Ct) (c__law_leaf : Ct) (c__law_reader : Ct) : MS :=
  sSeq (sSet 5 (mOp oIxA (mVar 1) (mFnK c__law_draw (pick [(false, 0), (false, 1)]) 2 0 (aCons (mVar 0) (aCons (mSel 1 (mDLen 1) (mCall cLen (aCons (mVar 1) (aNil)))) (aNil))) (aNil))))
  (m__law_reader_12 c__law_draw c__law_leaf c__law_reader)
def m__law_reader_14 (c__law_draw : Ct) (c__law_leaf : Ct) (c__law_reader : Ct) : MS :=
  sSeq (sIf (bOr (mTest (mOp oLt (mVar 2) (mVal (.int 2)))) (bOr (mTest (mOp oLt (mOp oIxA (mVar 3) (mVal (.int 0))) (mVal (.int 1)))) (mTest (mOp oEq (mVar 4) (mVal (.int 0)))))) (m__law_reader_0 c__law_draw c__law_leaf c__law_reader) (sNext))
  (m__law_reader_13 c__law_draw c__law_leaf c__law_reader)
def m__law_reader_15 (c__law_draw : Ct) (c__law_leaf : Ct) (c__law_reader : Ct) : MS :=
  sSeq (sSet 4 (mFnK c__law_draw (pick [(false, 0), (false, 1)]) 2 0 (aCons (mVar 0) (aCons (mVal (.int 12)) (aNil))) (aNil)))
  (m__law_reader_14 c__law_draw c__law_leaf c__law_reader)
def m__law_reader (c__law_draw : Ct) (c__law_leaf : Ct) (c__law_reader : Ct) : MS := m__law_reader_15 c__law_draw c__law_leaf c__law_reader
def mi__law_reader (c__law_draw : Ct) (c__law_leaf : Ct) (c__law_reader : Ct) : MS :=
  sSeq (sSet 4 (mFnK c__law_draw (pick [(false, 0), (false, 1)]) 2 0 (aCons (mVar 0) (aCons (mVal (.int 12)) (aNil))) (aNil)))
  (sSeq (sIf (bOr (mTest (mOp oLt (mVar 2) (mVal (.int 2)))) (bOr (mTest (mOp oLt (mOp oIxA (mVar 3) (mVal (.int 0))) (mVal (.int 1)))) (mTest (mOp oEq (mVar 4) (mVal (.int 0)))))) (sRet (mFnK c__law_leaf (pick [(false, 0), (false, 1)]) 2 0 (aCons (mVar 0) (aCons (mVar 1) (aNil))) (aNil))) (sNext))
  (sSeq (sSet 5 (mOp oIxA (mVar 1) (mFnK c__law_draw (pick [(false, 0), (false, 1)]) 2 0 (aCons (mVar 0) (aCons (mSel 1 (mDLen 1) (mCall cLen (aCons (mVar 1) (aNil)))) (aNil))) (aNil))))
  (sSeq (sSet 6 (mCall cMinA (aCons (mOp oIxA (mLst (aCons (mOp oAdd (mVal (.int 2)) (mFnK c__law_draw (pick [(false, 0), (false, 1)]) 2 0 (aCons (mVar 0) (aCons (mVal (.int 5)) (aNil))) (aNil))) (aCons (mVal (.int 1)) (aNil)))) (mCall cInt (aCons (mOp oGt (mVar 4) (mVal (.int 4))) (aNil)))) (aCons (mOp oIxA (mVar 3) (mVal (.int 0))) (aNil)))))
  (sSeq (sIf (bAnd (mTest (mOp oLt (mVar 4) (mVal (.int 5)))) (mTest (mOp oLt (mVar 6) (mVal (.int 2))))) (sSeq (sSet 4 (mOp oAdd (mVal (.int 5)) (mVar 4)))
  (sSet 6 (mVal (.int 1)))) (sNext))
  (sSeq (sAugS 3 pSub (mVal (.int 0)) (mVar 6))
  (sSeq (sSet 7 (mCall cTuple (aCons (mLc [8] (iRange1 (mVar 6)) (gNm 8) (bYes) (mFnK c__law_reader (pick [(false, 0), (false, 1), (false, 2), (false, 3)]) 4 0 (aCons (mVar 0) (aCons (mVar 1) (aCons (mOp oSub (mVar 2) (mVal (.int 1))) (aCons (mVar 3) (aNil))))) (aNil))) (aNil))))
  (sSeq (sIf (mTest (mOp oLt (mVar 4) (mVal (.int 5)))) (sRet (mTup (aCons (mOp oIxA (mLst (aCons (mVal (.str ("row" : Str))) (aCons (mVal (.str ("row" : Str))) (aCons (mVal (.str ("row" : Str))) (aCons (mVal (.str ("choice" : Str))) (aCons (mVal (.str ("choice" : Str))) (aNil))))))) (mVar 4)) (aCons (mVar 7) (aNil))))) (sNext))
  (sSeq (sSet 9 (mOp oIxA (mLst (aCons (mVal (.str ("many" : Str))) (aCons (mVal (.str ("maybe" : Str))) (aCons (mVal (.str ("ahead" : Str))) (aCons (mVal (.str ("not" : Str))) (aCons (mVal (.str ("hold" : Str))) (aCons (mVal (.str ("tag" : Str))) (aCons (mVal (.str ("make" : Str))) (aNil))))))))) (mOp oSub (mVar 4) (mVal (.int 5)))))
  (sSeq (sIf (mTest (mOp oEq (mVar 9) (mVal (.str ("make" : Str))))) (sRet (mTup (aCons (mVar 9) (aCons (mOp oIxA (mLst (aCons (mVal (.str ("text" : Str))) (aCons (mVal (.str ("drop" : Str))) (aCons (mVal (.str ("count" : Str))) (aCons (mVal (.str ("number" : Str))) (aNil)))))) (mFnK c__law_draw (pick [(false, 0), (false, 1)]) 2 0 (aCons (mVar 0) (aCons (mVal (.int 4)) (aNil))) (aNil))) (aCons (mOp oIxA (mVar 7) (mVal (.int 0))) (aNil)))))) (sNext))
  (sRet (mIf (mTest (mOp oIn (mVar 9) (mTup (aCons (mVal (.str ("hold" : Str))) (aCons (mVal (.str ("tag" : Str))) (aNil)))))) (mTup (aCons (mVar 9) (aCons (mVar 5) (aCons (mOp oIxA (mVar 7) (mVal (.int 0))) (aNil))))) (mTup (aCons (mVar 9) (aCons (mOp oIxA (mVar 7) (mVal (.int 0))) (aNil)))))))))))))))
theorem me__law_reader (c__law_draw : Ct) (c__law_leaf : Ct) (c__law_reader : Ct) : mi__law_reader c__law_draw c__law_leaf c__law_reader = m__law_reader c__law_draw c__law_leaf c__law_reader := by rfl
theorem d__law_reader {P : Program} {w : World} {K : Fg} {mg : Str → Option Value} {base : Heap} {f : Addr} {cdv : Value} {A : Around} {outer : List Env} {s : Shared} {H : Hp} {E : XK} {k : Nat} {c__law_draw c__law_leaf c__law_reader : Ct} (g : Gb w K mg)
    (h__law_draw_2 : Def P w K mg base k "_law_draw" 2 [] (pick [(false, 0), (false, 1)]) c__law_draw)
    (h__law_leaf_2 : Def P w K mg base k "_law_leaf" 2 [] (pick [(false, 0), (false, 1)]) c__law_leaf)
    (h__law_reader_4 : Def P w K mg base k "_law_reader" 4 [] (pick [(false, 0), (false, 1), (false, 2), (false, 3)]) c__law_reader)
    (hr : Room k (A.deeper (envOfC "_law_reader" (defScope s__law_reader) s.heap.objs.size f cdv))) (hgu : A.guards = some []) :
    DSs (cxOf CX0 P w K mg base N__law_reader "_law_reader" (defScope s__law_reader) f cdv A outer s H E).nox (defBody s__law_reader) (m__law_reader c__law_draw c__law_leaf c__law_reader) :=
  have nd := sc__law_reader.nd
  have h : DSs (cxOf CX0 P w K mg base N__law_reader "_law_reader" (defScope s__law_reader) f cdv A outer s H E).nox (defBody s__law_reader) (mi__law_reader c__law_draw c__law_leaf c__law_reader) :=
  (dss_cons (dst 4 nd (de_def h__law_draw_2 hr hgu (by rfl) (da_cons (dv 0) (da_cons (de_int) (da_nil)))))
  (dss_cons (ds_if (dt_w (dw_or (dtc opd_lt (dv 2) (de_int)) (dw_or (dtc opd_lt (de_ixA (u1 hr) (dv 3) (de_int)) (de_int)) (dw_or1 (dtc (opd_eq (u64 hr)) (dv 4) (de_int)))))) (dss_one (ds_ret (de_def h__law_leaf_2 hr hgu (by rfl) (da_cons (dv 0) (da_cons (dv 1) (da_nil)))))) (dss_nil))
  (dss_cons (dst 5 nd (de_ixA (u1 hr) (dv 1) (de_def h__law_draw_2 hr hgu (by rfl) (da_cons (dv 0) (da_cons (de_sel (de_dlen (i := 1) (by rfl) g.b_len (by rfl) (by first | exact .inl rfl | exact .inr (.inl rfl) | exact .inr (.inr rfl))) (de_callB calld_len (by rfl) g.b_len (by rfl) (da_cons (dv 1) (da_nil)))) (da_nil))))))
  (dss_cons (dst 6 nd (de_callB (calld_minA (by rfl)) (by rfl) g.b_min (by rfl) (da_cons (de_ixA (u1 hr) (de_lst (da_cons (de_op opd_add (de_int) (de_def h__law_draw_2 hr hgu (by rfl) (da_cons (dv 0) (da_cons (de_int) (da_nil))))) (da_cons (de_int) (da_nil)))) (de_callTy calld_int (by rfl) g.b_int (by rfl) (da_cons (dec opd_gt (dv 4) (de_int)) (da_nil)))) (da_cons (de_ixA (u1 hr) (dv 3) (de_int)) (da_nil)))))
  (dss_cons (ds_if (dt_w (dw_and (dtc opd_lt (dv 4) (de_int)) (dw_and1 (dtc opd_lt (dv 6) (de_int))))) (dss_cons (dst 4 nd (de_op opd_add (de_int) (dv 4)))
  (dss_one (dst 6 nd (de_int)))) (dss_nil))
  (dss_cons (ds_augS (i := 3) (by rfl) (by first | exact .inl rfl | exact .inr (.inl rfl) | exact .inr (.inr rfl)) ipd_sub (de_int) (dv 6))
  (dss_cons (dst 7 nd (de_callTy calld_tuple (by rfl) g.b_tuple (by rfl) (da_cons (de_lc (own := [(("_law_k" : Str), 8)]) (by rfl) nd (di_range1 (by rfl) g.b_range (dv 6)) (blkOk_by (N := N__law_reader) (sc := defScope s__law_reader) (own := [(("_law_k" : Str), 8)]) (by decide +kernel)) (fun _ _ _ _ _ => dgn 8 nd) (fun _ _ _ _ _ => dts_nil) (fun _ _ _ _ _ => de_def h__law_reader_4 hr hgu (by rfl) (da_cons (dv 0) (da_cons (dv 1) (da_cons (de_op opd_sub (dv 2) (de_int)) (da_cons (dv 3) (da_nil))))))) (da_nil))))
  (dss_cons (ds_if (dtc opd_lt (dv 4) (de_int)) (dss_one (ds_ret (de_tup (da_cons (de_ixA (u1 hr) (de_lst (da_cons (de_str) (da_cons (de_str) (da_cons (de_str) (da_cons (de_str) (da_cons (de_str) (da_nil))))))) (dv 4)) (da_cons (dv 7) (da_nil)))))) (dss_nil))
  (dss_cons (dst 9 nd (de_ixA (u1 hr) (de_lst (da_cons (de_str) (da_cons (de_str) (da_cons (de_str) (da_cons (de_str) (da_cons (de_str) (da_cons (de_str) (da_cons (de_str) (da_nil))))))))) (de_op opd_sub (dv 4) (de_int))))
  (dss_cons (ds_if (dtc (opd_eq (u64 hr)) (dv 9) (de_str)) (dss_one (ds_ret (de_tup (da_cons (dv 9) (da_cons (de_ixA (u1 hr) (de_lst (da_cons (de_str) (da_cons (de_str) (da_cons (de_str) (da_cons (de_str) (da_nil)))))) (de_def h__law_draw_2 hr hgu (by rfl) (da_cons (dv 0) (da_cons (de_int) (da_nil))))) (da_cons (de_ixA (u1 hr) (dv 7) (de_int)) (da_nil))))))) (dss_nil))
  (dss_one (ds_ret (de_if (dtc (opd_in (u65 hr)) (dv 9) (de_tup (da_cons (de_str) (da_cons (de_str) (da_nil))))) (de_tup (da_cons (dv 9) (da_cons (dv 5) (da_cons (de_ixA (u1 hr) (dv 7) (de_int)) (da_nil))))) (de_tup (da_cons (dv 9) (da_cons (de_ixA (u1 hr) (dv 7) (de_int)) (da_nil)))))))))))))))))
  me__law_reader c__law_draw c__law_leaf c__law_reader ▸ h
def N__law_book : List Str := ["_law_pen", "_law_most", "_law_names_here", "_law_left", "_law_name"]
theorem sc__law_book : FnScope N__law_book ["_law_pen", "_law_most"] (defScope s__law_book) := ⟨rfl, rfl, rfl, by decide +kernel, rfl, by decide +kernel, by decide +kernel⟩
def m__law_book_0 (c__law_names : Ct) (c__law_draw : Ct) (c__law_reader : Ct) : MS :=
  sRet (mCall cTuple (aCons (mLc [4] (iOf (mVar 2)) (gNm 4) (bYes) (mTup (aCons (mVar 4) (aCons (mFnK c__law_reader (pick [(false, 0), (false, 1), (false, 2), (false, 3)]) 4 0 (aCons (mVar 0) (aCons (mVar 2) (aCons (mOp oAdd (mVal (.int 1)) (mFnK c__law_draw (pick [(false, 0), (false, 1)]) 2 0 (aCons (mVar 0) (aCons (mVal (.int 8)) (aNil))) (aNil))) (aCons (mVar 3) (aNil))))) (aNil)) (aNil))))) (aNil)))
def m__law_book_1 (c__law_names : Ct) (c__law_draw : Ct) (c__law_reader : Ct) : MS :=
  sSeq (sSet 3 (mLst (aCons (mOp oIxA (mLst (aCons (mOp oSub (mVar 1) (mSel 2 (mDLen 2) (mCall cLen (aCons (mVar 2) (aNil))))) (aCons (mFnK c__law_draw (pick [(false, 0), (false, 1)]) 2 0 (aCons (mVar 0) (aCons (mOp oAdd (mOp oSub (mVar 1) (mSel 2 (mDLen 2) (mCall cLen (aCons (mVar 2) (aNil))))) (mVal (.int 1))) (aNil))) (aNil)) (aNil)))) (mFnK c__law_draw (pick [(false, 0), (false, 1)]) 2 0 (aCons (mVar 0) (aCons (mVal (.int 2)) (aNil))) (aNil))) (aNil))))
  (m__law_book_0 c__law_names c__law_draw c__law_reader)
def m__law_book_2 (c__law_names : Ct) (c__law_draw : Ct) (c__law_reader : Ct) : MS :=
  sSeq (sSet 2 (mFnK c__law_names (pick [(false, 0), (false, 1)]) 2 0 (aCons (mVar 0) (aCons (mOp oAdd (mVal (.int 1)) (mFnK c__law_draw (pick [(false, 0), (false, 1)]) 2 0 (aCons (mVar 0) (aCons (mCall cMinA (aCons (mVal (.int 8)) (aCons (mVar 1) (aNil)))) (aNil))) (aNil))) (aNil))) (aNil)))
  (m__law_book_1 c__law_names c__law_draw c__law_reader)
def m__law_book (c__law_names : Ct) (c__law_draw : Ct) (c__law_reader : Ct) : MS := m__law_book_2 c__law_names c__law_draw c__law_reader
def mi__law_book (c__law_names : Ct) (c__law_draw : Ct) (c__law_reader : Ct) : MS :=
  sSeq (sSet 2 (mFnK c__law_names (pick [(false, 0), (false, 1)]) 2 0 (aCons (mVar 0) (aCons (mOp oAdd (mVal (.int 1)) (mFnK c__law_draw (pick [(false, 0), (false, 1)]) 2 0 (aCons (mVar 0) (aCons (mCall cMinA (aCons (mVal (.int 8)) (aCons (mVar 1) (aNil)))) (aNil))) (aNil))) (aNil))) (aNil)))
  (sSeq (sSet 3 (mLst (aCons (mOp oIxA (mLst (aCons (mOp oSub (mVar 1) (mSel 2 (mDLen 2) (mCall cLen (aCons (mVar 2) (aNil))))) (aCons (mFnK c__law_draw (pick [(false, 0), (false, 1)]) 2 0 (aCons (mVar 0) (aCons (mOp oAdd (mOp oSub (mVar 1) (mSel 2 (mDLen 2) (mCall cLen (aCons (mVar 2) (aNil))))) (mVal (.int 1))) (aNil))) (aNil)) (aNil)))) (mFnK c__law_draw (pick [(false, 0), (false, 1)]) 2 0 (aCons (mVar 0) (aCons (mVal (.int 2)) (aNil))) (aNil))) (aNil))))
  (sRet (mCall cTuple (aCons (mLc [4] (iOf (mVar 2)) (gNm 4) (bYes) (mTup (aCons (mVar 4) (aCons (mFnK c__law_reader (pick [(false, 0), (false, 1), (false, 2), (false, 3)]) 4 0 (aCons (mVar 0) (aCons (mVar 2) (aCons (mOp oAdd (mVal (.int 1)) (mFnK c__law_draw (pick [(false, 0), (false, 1)]) 2 0 (aCons (mVar 0) (aCons (mVal (.int 8)) (aNil))) (aNil))) (aCons (mVar 3) (aNil))))) (aNil)) (aNil))))) (aNil)))))
theorem me__law_book (c__law_names : Ct) (c__law_draw : Ct) (c__law_reader : Ct) : mi__law_book c__law_names c__law_draw c__law_reader = m__law_book c__law_names c__law_draw c__law_reader := by rfl
theorem d__law_book {P : Program} {w : World} {K : Fg} {mg : Str → Option Value} {base : Heap} {f : Addr} {cdv : Value} {A : Around} {outer : List Env} {s : Shared} {H : Hp} {E : XK} {k : Nat} {c__law_names c__law_draw c__law_reader : Ct} (g : Gb w K mg)
    (h__law_names_2 : Def P w K mg base k "_law_names" 2 [] (pick [(false, 0), (false, 1)]) c__law_names)
    (h__law_draw_2 : Def P w K mg base k "_law_draw" 2 [] (pick [(false, 0), (false, 1)]) c__law_draw)
    (h__law_reader_4 : Def P w K mg base k "_law_reader" 4 [] (pick [(false, 0), (false, 1), (false, 2), (false, 3)]) c__law_reader)
    (hr : Room k (A.deeper (envOfC "_law_book" (defScope s__law_book) s.heap.objs.size f cdv))) (hgu : A.guards = some []) :
    DSs (cxOf CX0 P w K mg base N__law_book "_law_book" (defScope s__law_book) f cdv A outer s H E).nox (defBody s__law_book) (m__law_book c__law_names c__law_draw c__law_reader) :=
  have nd := sc__law_book.nd
  have h : DSs (cxOf CX0 P w K mg base N__law_book "_law_book" (defScope s__law_book) f cdv A outer s H E).nox (defBody s__law_book) (mi__law_book c__law_names c__law_draw c__law_reader) :=
  (dss_cons (dst 2 nd (de_def h__law_names_2 hr hgu (by rfl) (da_cons (dv 0) (da_cons (de_op opd_add (de_int) (de_def h__law_draw_2 hr hgu (by rfl) (da_cons (dv 0) (da_cons (de_callB (calld_minA (by rfl)) (by rfl) g.b_min (by rfl) (da_cons (de_int) (da_cons (dv 1) (da_nil)))) (da_nil))))) (da_nil)))))
  (dss_cons (dst 3 nd (de_lst (da_cons (de_ixA (u1 hr) (de_lst (da_cons (de_op opd_sub (dv 1) (de_sel (de_dlen (i := 2) (by rfl) g.b_len (by rfl) (by first | exact .inl rfl | exact .inr (.inl rfl) | exact .inr (.inr rfl))) (de_callB calld_len (by rfl) g.b_len (by rfl) (da_cons (dv 2) (da_nil))))) (da_cons (de_def h__law_draw_2 hr hgu (by rfl) (da_cons (dv 0) (da_cons (de_op opd_add (de_op opd_sub (dv 1) (de_sel (de_dlen (i := 2) (by rfl) g.b_len (by rfl) (by first | exact .inl rfl | exact .inr (.inl rfl) | exact .inr (.inr rfl))) (de_callB calld_len (by rfl) g.b_len (by rfl) (da_cons (dv 2) (da_nil))))) (de_int)) (da_nil)))) (da_nil)))) (de_def h__law_draw_2 hr hgu (by rfl) (da_cons (dv 0) (da_cons (de_int) (da_nil))))) (da_nil))))
  (dss_one (ds_ret (de_callTy calld_tuple (by rfl) g.b_tuple (by rfl) (da_cons (de_lc (own := [(("_law_name" : Str), 4)]) (by rfl) nd (di_of (dv 2)) (blkOk_by (N := N__law_book) (sc := defScope s__law_book) (own := [(("_law_name" : Str), 4)]) (by decide +kernel)) (fun _ _ _ _ _ => dgn 4 nd) (fun _ _ _ _ _ => dts_nil) (fun _ _ _ _ _ => de_tup (da_cons (dv 4) (da_cons (de_def h__law_reader_4 hr hgu (by rfl) (da_cons (dv 0) (da_cons (dv 2) (da_cons (de_op opd_add (de_int) (de_def h__law_draw_2 hr hgu (by rfl) (da_cons (dv 0) (da_cons (de_int) (da_nil))))) (da_cons (dv 3) (da_nil)))))) (da_nil))))) (da_nil)))))))
  me__law_book c__law_names c__law_draw c__law_reader ▸ h
def N__law_is_signs : List Str := ["_law_some", "_law_least", "_law_every", "_law_places", "_law_sign", "_law_k"]
theorem sc__law_is_signs : FnScope N__law_is_signs ["_law_some", "_law_least"] (defScope s__law_is_signs) := ⟨rfl, rfl, rfl, by decide +kernel, rfl, by decide +kernel, by decide +kernel⟩
def m__law_is_signs_0 (c__law_all : Ct) : MS :=
  sRet (mOp oEqU (mLc [5] (iRange2 (mVal (.int 1)) (mCall cLen (aCons (mVar 3) (aNil)))) (gNm 5) (mTest (mOp oGe (mOp oIxA (mVar 3) (mOp oSub (mVar 5) (mVal (.int 1)))) (mOp oIxA (mVar 3) (mVar 5)))) (mVar 5)) (mLst (aNil)))
def m__law_is_signs_1 (c__law_all : Ct) : MS :=
  sSeq (sIf (mTest (mOp oIn (mNeg (mVal (.int 1))) (mVar 3))) (sRet (mVal (.bool false))) (sNext))
  (m__law_is_signs_0 c__law_all)
def m__law_is_signs_2 (c__law_all : Ct) : MS :=
  sSeq (sSet 3 (mLc [4] (iOf (mVar 0)) (gNm 4) (bYes) (mSm jFind (mVar 2) (aCons (mVar 4) (aNil)))))
  (m__law_is_signs_1 c__law_all)
def m__law_is_signs_3 (c__law_all : Ct) : MS :=
  sSeq (sSet 2 (mFnK c__law_all (pick []) 0 0 (aNil) (aNil)))
  (m__law_is_signs_2 c__law_all)
def m__law_is_signs_4 (c__law_all : Ct) : MS :=
  sSeq (sIf (bOr (bNot (mTru (mIsI "str" (mVar 0)))) (bNot (mTest (mChain oLe oLe (mVar 1) (mSel 0 (mDLen 0) (mCall cLen (aCons (mVar 0) (aNil)))) (mVal (.int 94)))))) (sRet (mVal (.bool false))) (sNext))
  (m__law_is_signs_3 c__law_all)
def m__law_is_signs (c__law_all : Ct) : MS := m__law_is_signs_4 c__law_all
def mi__law_is_signs (c__law_all : Ct) : MS :=
  sSeq (sIf (bOr (bNot (mTru (mIsI "str" (mVar 0)))) (bNot (mTest (mChain oLe oLe (mVar 1) (mSel 0 (mDLen 0) (mCall cLen (aCons (mVar 0) (aNil)))) (mVal (.int 94)))))) (sRet (mVal (.bool false))) (sNext))
  (sSeq (sSet 2 (mFnK c__law_all (pick []) 0 0 (aNil) (aNil)))
  (sSeq (sSet 3 (mLc [4] (iOf (mVar 0)) (gNm 4) (bYes) (mSm jFind (mVar 2) (aCons (mVar 4) (aNil)))))
  (sSeq (sIf (mTest (mOp oIn (mNeg (mVal (.int 1))) (mVar 3))) (sRet (mVal (.bool false))) (sNext))
  (sRet (mOp oEqU (mLc [5] (iRange2 (mVal (.int 1)) (mCall cLen (aCons (mVar 3) (aNil)))) (gNm 5) (mTest (mOp oGe (mOp oIxA (mVar 3) (mOp oSub (mVar 5) (mVal (.int 1)))) (mOp oIxA (mVar 3) (mVar 5)))) (mVar 5)) (mLst (aNil)))))))
theorem me__law_is_signs (c__law_all : Ct) : mi__law_is_signs c__law_all = m__law_is_signs c__law_all := by rfl
theorem d__law_is_signs {P : Program} {w : World} {K : Fg} {mg : Str → Option Value} {base : Heap} {f : Addr} {cdv : Value} {A : Around} {outer : List Env} {s : Shared} {H : Hp} {E : XK} {k : Nat} {c__law_all : Ct} (g : Gb w K mg)
    (h__law_all_0 : Def P w K mg base k "_law_all" 0 [] (pick []) c__law_all)
    (hr : Room k (A.deeper (envOfC "_law_is_signs" (defScope s__law_is_signs) s.heap.objs.size f cdv))) (hgu : A.guards = some []) :
    DSs (cxOf CX0 P w K mg base N__law_is_signs "_law_is_signs" (defScope s__law_is_signs) f cdv A outer s H E).nox (defBody s__law_is_signs) (m__law_is_signs c__law_all) :=
  have nd := sc__law_is_signs.nd
  have h : DSs (cxOf CX0 P w K mg base N__law_is_signs "_law_is_signs" (defScope s__law_is_signs) f cdv A outer s H E).nox (defBody s__law_is_signs) (mi__law_is_signs c__law_all) :=
  (dss_cons (ds_if (dt_w (dw_or (dt_not (dt_of (de_isinst (T := "str") kit_str (by rfl) g.b_isinstance (by rfl) (by rfl) g.b_str (by rfl) (dv 0)))) (dw_or1 (dt_not (dt_chain opd_le opd_le (dv 1) (de_sel (de_dlen (i := 0) (by rfl) g.b_len (by rfl) (by first | exact .inl rfl | exact .inr (.inl rfl) | exact .inr (.inr rfl))) (de_callB calld_len (by rfl) g.b_len (by rfl) (da_cons (dv 0) (da_nil)))) (de_int)))))) (dss_one (ds_ret (de_bl))) (dss_nil))
  (dss_cons (dst 2 nd (de_def0 h__law_all_0 hr hgu (by rfl)))
  (dss_cons (dst 3 nd (de_lc (own := [(("_law_sign" : Str), 4)]) (by rfl) nd (di_of (dv 0)) (blkOk_by (N := N__law_is_signs) (sc := defScope s__law_is_signs) (own := [(("_law_sign" : Str), 4)]) (by decide +kernel)) (fun _ _ _ _ _ => dgn 4 nd) (fun _ _ _ _ _ => dts_nil) (fun _ _ _ _ _ => de_sm smd_find PySem.F.slot_str_find PySem.F.type_str_find (dv 2) (da_cons (dv 4) (da_nil)))))
  (dss_cons (ds_if (dtc (opd_in (u65 hr)) (de_neg (de_int)) (dv 3)) (dss_one (ds_ret (de_bl))) (dss_nil))
  (dss_one (ds_ret (dec (opd_eqU (u64 hr)) (de_lc (own := [(("_law_k" : Str), 5)]) (by rfl) nd (di_range2 (by rfl) g.b_range (de_int) (de_callB calld_len (by rfl) g.b_len (by rfl) (da_cons (dv 3) (da_nil)))) (blkOk_by (N := N__law_is_signs) (sc := defScope s__law_is_signs) (own := [(("_law_k" : Str), 5)]) (by decide +kernel)) (fun _ _ _ _ _ => dgn 5 nd) (fun _ _ _ _ _ => dts_one (dtc opd_ge (de_ixA (u1 hr) (dv 3) (de_op opd_sub (dv 5) (de_int))) (de_ixA (u1 hr) (dv 3) (dv 5)))) (fun _ _ _ _ _ => dv 5)) (de_lst (da_nil)))))))))
  me__law_is_signs c__law_all ▸ h
def N__law_named : List Str := ["_law_some", "_law_sign"]
theorem sc__law_named : FnScope N__law_named ["_law_some"] (defScope s__law_named) := ⟨rfl, rfl, rfl, by decide +kernel, rfl, by decide +kernel, by decide +kernel⟩
def m__law_named_0 : MS :=
  sRet (mOp oEqU (mLc [1] (iOf (mVar 0)) (gNm 1) (mTest (mOp oNotIn (mVar 1) (mVal (.str ("abcdefghijklmnopqrstuvwxyz" : Str))))) (mVar 1)) (mLst (aNil)))
def m__law_named_1 : MS :=
  sSeq (sIf (bOr (bNot (mTru (mIsI "str" (mVar 0)))) (bNot (mTest (mChain oLe oLe (mVal (.int 1)) (mSel 0 (mDLen 0) (mCall cLen (aCons (mVar 0) (aNil)))) (mVal (.int 8)))))) (sRet (mVal (.bool false))) (sNext))
  (m__law_named_0)
def m__law_named : MS := m__law_named_1
def mi__law_named : MS :=
  sSeq (sIf (bOr (bNot (mTru (mIsI "str" (mVar 0)))) (bNot (mTest (mChain oLe oLe (mVal (.int 1)) (mSel 0 (mDLen 0) (mCall cLen (aCons (mVar 0) (aNil)))) (mVal (.int 8)))))) (sRet (mVal (.bool false))) (sNext))
  (sRet (mOp oEqU (mLc [1] (iOf (mVar 0)) (gNm 1) (mTest (mOp oNotIn (mVar 1) (mVal (.str ("abcdefghijklmnopqrstuvwxyz" : Str))))) (mVar 1)) (mLst (aNil))))
theorem me__law_named : mi__law_named = m__law_named := by rfl
theorem d__law_named {P : Program} {w : World} {K : Fg} {mg : Str → Option Value} {base : Heap} {f : Addr} {cdv : Value} {A : Around} {outer : List Env} {s : Shared} {H : Hp} {E : XK} {k : Nat} (g : Gb w K mg)
    (hr : Room k (A.deeper (envOfC "_law_named" (defScope s__law_named) s.heap.objs.size f cdv))) (hgu : A.guards = some []) :
    DSs (cxOf CX0 P w K mg base N__law_named "_law_named" (defScope s__law_named) f cdv A outer s H E).nox (defBody s__law_named) (m__law_named) :=
  have nd := sc__law_named.nd
  have h : DSs (cxOf CX0 P w K mg base N__law_named "_law_named" (defScope s__law_named) f cdv A outer s H E).nox (defBody s__law_named) (mi__law_named) :=
  (dss_cons (ds_if (dt_w (dw_or (dt_not (dt_of (de_isinst (T := "str") kit_str (by rfl) g.b_isinstance (by rfl) (by rfl) g.b_str (by rfl) (dv 0)))) (dw_or1 (dt_not (dt_chain opd_le opd_le (de_int) (de_sel (de_dlen (i := 0) (by rfl) g.b_len (by rfl) (by first | exact .inl rfl | exact .inr (.inl rfl) | exact .inr (.inr rfl))) (de_callB calld_len (by rfl) g.b_len (by rfl) (da_cons (dv 0) (da_nil)))) (de_int)))))) (dss_one (ds_ret (de_bl))) (dss_nil))
  (dss_one (ds_ret (dec (opd_eqU (u64 hr)) (de_lc (own := [(("_law_sign" : Str), 1)]) (by rfl) nd (di_of (dv 0)) (blkOk_by (N := N__law_named) (sc := defScope s__law_named) (own := [(("_law_sign" : Str), 1)]) (by decide +kernel)) (fun _ _ _ _ _ => dgn 1 nd) (fun _ _ _ _ _ => dts_one (dtc (opd_notin (u65 hr)) (dv 1) (de_str))) (fun _ _ _ _ _ => dv 1)) (de_lst (da_nil))))))
  me__law_named ▸ h
def N__law_is_reader : List Str := ["_law_some", "_law_left", "_law_part"]
theorem sc__law_is_reader : FnScope N__law_is_reader ["_law_some", "_law_left"] (defScope s__law_is_reader) := ⟨rfl, rfl, rfl, by decide +kernel, rfl, by decide +kernel, by decide +kernel⟩
def m__law_is_reader_0 (c__law_is_signs : Ct) (c__law_named : Ct) (c__law_is_reader : Ct) : MS :=
  sRet (mOp oEq (mCall cLen (aCons (mVar 0) (aNil))) (mVal (.int 1)))
def m__law_is_reader_1 (c__law_is_signs : Ct) (c__law_named : Ct) (c__law_is_reader : Ct) : MS :=
  sRet (mAnd (mOp oEq (mCall cLen (aCons (mVar 0) (aNil))) (mVal (.int 2))) (mFnK c__law_is_signs (pick [(false, 0), (false, 1)]) 2 0 (aCons (mOp oIxA (mVar 0) (mVal (.int 1))) (aCons (mCall cInt (aCons (mOp oEq (mOp oIxA (mVar 0) (mVal (.int 0))) (mVal (.str ("sign" : Str)))) (aNil))) (aNil))) (aNil)))
def m__law_is_reader_2 (c__law_is_signs : Ct) (c__law_named : Ct) (c__law_is_reader : Ct) : MS :=
  sRet (mAnd (mOp oEq (mCall cLen (aCons (mVar 0) (aNil))) (mVal (.int 2))) (mFnK c__law_named (pick [(false, 0)]) 1 0 (aCons (mOp oIxA (mVar 0) (mVal (.int 1))) (aNil)) (aNil)))
def m__law_is_reader_3 (c__law_is_signs : Ct) (c__law_named : Ct) (c__law_is_reader : Ct) : MS :=
  sRet (mCall cAll (aCons (mLc [2] (iOf (mOp oIxA (mVar 0) (mVal (.int 1)))) (gNm 2) (bYes) (mFnK c__law_is_reader (pick [(false, 0), (false, 1)]) 2 0 (aCons (mVar 2) (aCons (mOp oSub (mVar 1) (mVal (.int 1))) (aNil))) (aNil))) (aNil)))
def m__law_is_reader_4 (c__law_is_signs : Ct) (c__law_named : Ct) (c__law_is_reader : Ct) : MS :=
  sSeq (sIf (bOr (mTest (mOp oNe (mCall cLen (aCons (mVar 0) (aNil))) (mVal (.int 2)))) (bOr (bNot (mTru (mIsI "tuple" (mOp oIxA (mVar 0) (mVal (.int 1)))))) (bNot (mTest (mChain oLe oLe (mVal (.int 2)) (mCall cLen (aCons (mOp oIxA (mVar 0) (mVal (.int 1))) (aNil))) (mVal (.int 6))))))) (sRet (mVal (.bool false))) (sNext))
  (m__law_is_reader_3 c__law_is_signs c__law_named c__law_is_reader)
def m__law_is_reader_5 (c__law_is_signs : Ct) (c__law_named : Ct) (c__law_is_reader : Ct) : MS :=
  sRet (mAnd (mOp oEq (mCall cLen (aCons (mVar 0) (aNil))) (mVal (.int 2))) (mFnK c__law_is_reader (pick [(false, 0), (false, 1)]) 2 0 (aCons (mOp oIxA (mVar 0) (mVal (.int 1))) (aCons (mOp oSub (mVar 1) (mVal (.int 1))) (aNil))) (aNil)))
def m__law_is_reader_6 (c__law_is_signs : Ct) (c__law_named : Ct) (c__law_is_reader : Ct) : MS :=
  sRet (mAnd (mOp oEq (mCall cLen (aCons (mVar 0) (aNil))) (mVal (.int 3))) (mAnd (mFnK c__law_named (pick [(false, 0)]) 1 0 (aCons (mOp oIxA (mVar 0) (mVal (.int 1))) (aNil)) (aNil)) (mFnK c__law_is_reader (pick [(false, 0), (false, 1)]) 2 0 (aCons (mOp oIxA (mVar 0) (mVal (.int 2))) (aCons (mOp oSub (mVar 1) (mVal (.int 1))) (aNil))) (aNil))))
def m__law_is_reader_7 (c__law_is_signs : Ct) (c__law_named : Ct) (c__law_is_reader : Ct) : MS :=
  sRet (mAnd (mOp oIn (mOp oIxA (mVar 0) (mVal (.int 1))) (mTup (aCons (mVal (.str ("text" : Str))) (aCons (mVal (.str ("drop" : Str))) (aCons (mVal (.str ("count" : Str))) (aCons (mVal (.str ("number" : Str))) (aNil))))))) (mFnK c__law_is_reader (pick [(false, 0), (false, 1)]) 2 0 (aCons (mOp oIxA (mVar 0) (mVal (.int 2))) (aCons (mOp oSub (mVar 1) (mVal (.int 1))) (aNil))) (aNil)))
def m__law_is_reader_8 (c__law_is_signs : Ct) (c__law_named : Ct) (c__law_is_reader : Ct) : MS :=
  sSeq (sIf (bOr (mTest (mOp oNe (mOp oIxA (mVar 0) (mVal (.int 0))) (mVal (.str ("make" : Str))))) (bOr (mTest (mOp oNe (mCall cLen (aCons (mVar 0) (aNil))) (mVal (.int 3)))) (bNot (mTru (mIsI "str" (mOp oIxA (mVar 0) (mVal (.int 1)))))))) (sRet (mVal (.bool false))) (sNext))
  (m__law_is_reader_7 c__law_is_signs c__law_named c__law_is_reader)
def m__law_is_reader_9 (c__law_is_signs : Ct) (c__law_named : Ct) (c__law_is_reader : Ct) : MS :=
  sSeq (sIf (mTest (mOp oIn (mOp oIxA (mVar 0) (mVal (.int 0))) (mTup (aCons (mVal (.str ("hold" : Str))) (aCons (mVal (.str ("tag" : Str))) (aNil)))))) (m__law_is_reader_6 c__law_is_signs c__law_named c__law_is_reader) (sNext))
  (m__law_is_reader_8 c__law_is_signs c__law_named c__law_is_reader)
def m__law_is_reader_10 (c__law_is_signs : Ct) (c__law_named : Ct) (c__law_is_reader : Ct) : MS :=
  sSeq (sIf (mTest (mOp oIn (mOp oIxA (mVar 0) (mVal (.int 0))) (mTup (aCons (mVal (.str ("many" : Str))) (aCons (mVal (.str ("maybe" : Str))) (aCons (mVal (.str ("ahead" : Str))) (aCons (mVal (.str ("not" : Str))) (aNil)))))))) (m__law_is_reader_5 c__law_is_signs c__law_named c__law_is_reader) (sNext))
  (m__law_is_reader_9 c__law_is_signs c__law_named c__law_is_reader)
def m__law_is_reader_11 (c__law_is_signs : Ct) (c__law_named : Ct) (c__law_is_reader : Ct) : MS :=
  sSeq (sIf (mTest (mOp oIn (mOp oIxA (mVar 0) (mVal (.int 0))) (mTup (aCons (mVal (.str ("row" : Str))) (aCons (mVal (.str ("choice" : Str))) (aNil)))))) (m__law_is_reader_4 c__law_is_signs c__law_named c__law_is_reader) (sNext))
  (m__law_is_reader_10 c__law_is_signs c__law_named c__law_is_reader)
def m__law_is_reader_12 (c__law_is_signs : Ct) (c__law_named : Ct) (c__law_is_reader : Ct) : MS :=
  sSeq (sIf (mTest (mOp oIn (mOp oIxA (mVar 0) (mVal (.int 0))) (mTup (aCons (mVal (.str ("name" : Str))) (aCons (mVal (.str ("again" : Str))) (aNil)))))) (m__law_is_reader_2 c__law_is_signs c__law_named c__law_is_reader) (sNext))
  (m__law_is_reader_11 c__law_is_signs c__law_named c__law_is_reader)
def m__law_is_reader_13 (c__law_is_signs : Ct) (c__law_named : Ct) (c__law_is_reader : Ct) : MS :=
  sSeq (sIf (mTest (mOp oIn (mOp oIxA (mVar 0) (mVal (.int 0))) (mTup (aCons (mVal (.str ("sign" : Str))) (aCons (mVal (.str ("but" : Str))) (aNil)))))) (m__law_is_reader_1 c__law_is_signs c__law_named c__law_is_reader) (sNext))
  (m__law_is_reader_12 c__law_is_signs c__law_named c__law_is_reader)
def m__law_is_reader_14 (c__law_is_signs : Ct) (c__law_named : Ct) (c__law_is_reader : Ct) : MS :=
  sSeq (sIf (mTest (mOp oIn (mOp oIxA (mVar 0) (mVal (.int 0))) (mTup (aCons (mVal (.str ("nothing" : Str))) (aCons (mVal (.str ("never" : Str))) (aNil)))))) (m__law_is_reader_0 c__law_is_signs c__law_named c__law_is_reader) (sNext))
  (m__law_is_reader_13 c__law_is_signs c__law_named c__law_is_reader)
def m__law_is_reader_15 (c__law_is_signs : Ct) (c__law_named : Ct) (c__law_is_reader : Ct) : MS :=
  sSeq (sIf (bOr (mTest (mOp oEq (mVar 1) (mVal (.int 0)))) (bOr (bNot (mTru (mIsI "tuple" (mVar 0)))) (bOr (mTest (mOp oEqU (mVar 0) (mTup (aNil)))) (bNot (mTru (mIsI "str" (mOp oIxA (mVar 0) (mVal (.int 0))))))))) (sRet (mVal (.bool false))) (sNext))
  (m__law_is_reader_14 c__law_is_signs c__law_named c__law_is_reader)
def m__law_is_reader (c__law_is_signs : Ct) (c__law_named : Ct) (c__law_is_reader : Ct) : MS := m__law_is_reader_15 c__law_is_signs c__law_named c__law_is_reader
def mi__law_is_reader (c__law_is_signs : Ct) (c__law_named : Ct) (c__law_is_reader : Ct) : MS :=
  sSeq (sIf (bOr (mTest (mOp oEq (mVar 1) (mVal (.int 0)))) (bOr (bNot (mTru (mIsI "tuple" (mVar 0)))) (bOr (mTest (mOp oEqU (mVar 0) (mTup (aNil)))) (bNot (mTru (mIsI "str" (mOp oIxA (mVar 0) (mVal (.int 0))))))))) (sRet (mVal (.bool false))) (sNext))
  (sSeq (sIf (mTest (mOp oIn (mOp oIxA (mVar 0) (mVal (.int 0))) (mTup (aCons (mVal (.str ("nothing" : Str))) (aCons (mVal (.str ("never" : Str))) (aNil)))))) (sRet (mOp oEq (mCall cLen (aCons (mVar 0) (aNil))) (mVal (.int 1)))) (sNext))
  (sSeq (sIf (mTest (mOp oIn (mOp oIxA (mVar 0) (mVal (.int 0))) (mTup (aCons (mVal (.str ("sign" : Str))) (aCons (mVal (.str ("but" : Str))) (aNil)))))) (sRet (mAnd (mOp oEq (mCall cLen (aCons (mVar 0) (aNil))) (mVal (.int 2))) (mFnK c__law_is_signs (pick [(false, 0), (false, 1)]) 2 0 (aCons (mOp oIxA (mVar 0) (mVal (.int 1))) (aCons (mCall cInt (aCons (mOp oEq (mOp oIxA (mVar 0) (mVal (.int 0))) (mVal (.str ("sign" : Str)))) (aNil))) (aNil))) (aNil)))) (sNext))
  (sSeq (sIf (mTest (mOp oIn (mOp oIxA (mVar 0) (mVal (.int 0))) (mTup (aCons (mVal (.str ("name" : Str))) (aCons (mVal (.str ("again" : Str))) (aNil)))))) (sRet (mAnd (mOp oEq (mCall cLen (aCons (mVar 0) (aNil))) (mVal (.int 2))) (mFnK c__law_named (pick [(false, 0)]) 1 0 (aCons (mOp oIxA (mVar 0) (mVal (.int 1))) (aNil)) (aNil)))) (sNext))
  (sSeq (sIf (mTest (mOp oIn (mOp oIxA (mVar 0) (mVal (.int 0))) (mTup (aCons (mVal (.str ("row" : Str))) (aCons (mVal (.str ("choice" : Str))) (aNil)))))) (sSeq (sIf (bOr (mTest (mOp oNe (mCall cLen (aCons (mVar 0) (aNil))) (mVal (.int 2)))) (bOr (bNot (mTru (mIsI "tuple" (mOp oIxA (mVar 0) (mVal (.int 1)))))) (bNot (mTest (mChain oLe oLe (mVal (.int 2)) (mCall cLen (aCons (mOp oIxA (mVar 0) (mVal (.int 1))) (aNil))) (mVal (.int 6))))))) (sRet (mVal (.bool false))) (sNext))
  (sRet (mCall cAll (aCons (mLc [2] (iOf (mOp oIxA (mVar 0) (mVal (.int 1)))) (gNm 2) (bYes) (mFnK c__law_is_reader (pick [(false, 0), (false, 1)]) 2 0 (aCons (mVar 2) (aCons (mOp oSub (mVar 1) (mVal (.int 1))) (aNil))) (aNil))) (aNil))))) (sNext))
  (sSeq (sIf (mTest (mOp oIn (mOp oIxA (mVar 0) (mVal (.int 0))) (mTup (aCons (mVal (.str ("many" : Str))) (aCons (mVal (.str ("maybe" : Str))) (aCons (mVal (.str ("ahead" : Str))) (aCons (mVal (.str ("not" : Str))) (aNil)))))))) (sRet (mAnd (mOp oEq (mCall cLen (aCons (mVar 0) (aNil))) (mVal (.int 2))) (mFnK c__law_is_reader (pick [(false, 0), (false, 1)]) 2 0 (aCons (mOp oIxA (mVar 0) (mVal (.int 1))) (aCons (mOp oSub (mVar 1) (mVal (.int 1))) (aNil))) (aNil)))) (sNext))
  (sSeq (sIf (mTest (mOp oIn (mOp oIxA (mVar 0) (mVal (.int 0))) (mTup (aCons (mVal (.str ("hold" : Str))) (aCons (mVal (.str ("tag" : Str))) (aNil)))))) (sRet (mAnd (mOp oEq (mCall cLen (aCons (mVar 0) (aNil))) (mVal (.int 3))) (mAnd (mFnK c__law_named (pick [(false, 0)]) 1 0 (aCons (mOp oIxA (mVar 0) (mVal (.int 1))) (aNil)) (aNil)) (mFnK c__law_is_reader (pick [(false, 0), (false, 1)]) 2 0 (aCons (mOp oIxA (mVar 0) (mVal (.int 2))) (aCons (mOp oSub (mVar 1) (mVal (.int 1))) (aNil))) (aNil))))) (sNext))
  (sSeq (sIf (bOr (mTest (mOp oNe (mOp oIxA (mVar 0) (mVal (.int 0))) (mVal (.str ("make" : Str))))) (bOr (mTest (mOp oNe (mCall cLen (aCons (mVar 0) (aNil))) (mVal (.int 3)))) (bNot (mTru (mIsI "str" (mOp oIxA (mVar 0) (mVal (.int 1)))))))) (sRet (mVal (.bool false))) (sNext))
  (sRet (mAnd (mOp oIn (mOp oIxA (mVar 0) (mVal (.int 1))) (mTup (aCons (mVal (.str ("text" : Str))) (aCons (mVal (.str ("drop" : Str))) (aCons (mVal (.str ("count" : Str))) (aCons (mVal (.str ("number" : Str))) (aNil))))))) (mFnK c__law_is_reader (pick [(false, 0), (false, 1)]) 2 0 (aCons (mOp oIxA (mVar 0) (mVal (.int 2))) (aCons (mOp oSub (mVar 1) (mVal (.int 1))) (aNil))) (aNil)))))))))))
theorem me__law_is_reader (c__law_is_signs : Ct) (c__law_named : Ct) (c__law_is_reader : Ct) : mi__law_is_reader c__law_is_signs c__law_named c__law_is_reader = m__law_is_reader c__law_is_signs c__law_named c__law_is_reader := by rfl
theorem d__law_is_reader {P : Program} {w : World} {K : Fg} {mg : Str → Option Value} {base : Heap} {f : Addr} {cdv : Value} {A : Around} {outer : List Env} {s : Shared} {H : Hp} {E : XK} {k : Nat} {c__law_is_signs c__law_named c__law_is_reader : Ct} (g : Gb w K mg)
    (h__law_is_signs_2 : Def P w K mg base k "_law_is_signs" 2 [] (pick [(false, 0), (false, 1)]) c__law_is_signs)
    (h__law_named_1 : Def P w K mg base k "_law_named" 1 [] (pick [(false, 0)]) c__law_named)
    (h__law_is_reader_2 : Def P w K mg base k "_law_is_reader" 2 [] (pick [(false, 0), (false, 1)]) c__law_is_reader)
    (hr : Room k (A.deeper (envOfC "_law_is_reader" (defScope s__law_is_reader) s.heap.objs.size f cdv))) (hgu : A.guards = some []) :
    DSs (cxOf CX0 P w K mg base N__law_is_reader "_law_is_reader" (defScope s__law_is_reader) f cdv A outer s H E).nox (defBody s__law_is_reader) (m__law_is_reader c__law_is_signs c__law_named c__law_is_reader) :=
  have nd := sc__law_is_reader.nd
  have h : DSs (cxOf CX0 P w K mg base N__law_is_reader "_law_is_reader" (defScope s__law_is_reader) f cdv A outer s H E).nox (defBody s__law_is_reader) (mi__law_is_reader c__law_is_signs c__law_named c__law_is_reader) :=
  (dss_cons (ds_if (dt_w (dw_or (dtc (opd_eq (u64 hr)) (dv 1) (de_int)) (dw_or (dt_not (dt_of (de_isinst (T := "tuple") kit_tuple (by rfl) g.b_isinstance (by rfl) (by rfl) g.b_tuple (by rfl) (dv 0)))) (dw_or (dtc (opd_eqU (u64 hr)) (dv 0) (de_tup (da_nil))) (dw_or1 (dt_not (dt_of (de_isinst (T := "str") kit_str (by rfl) g.b_isinstance (by rfl) (by rfl) g.b_str (by rfl) (de_ixA (u1 hr) (dv 0) (de_int)))))))))) (dss_one (ds_ret (de_bl))) (dss_nil))
  (dss_cons (ds_if (dtc (opd_in (u65 hr)) (de_ixA (u1 hr) (dv 0) (de_int)) (de_tup (da_cons (de_str) (da_cons (de_str) (da_nil))))) (dss_one (ds_ret (dec (opd_eq (u64 hr)) (de_callB calld_len (by rfl) g.b_len (by rfl) (da_cons (dv 0) (da_nil))) (de_int)))) (dss_nil))
  (dss_cons (ds_if (dtc (opd_in (u65 hr)) (de_ixA (u1 hr) (dv 0) (de_int)) (de_tup (da_cons (de_str) (da_cons (de_str) (da_nil))))) (dss_one (ds_ret (de_and (dec (opd_eq (u64 hr)) (de_callB calld_len (by rfl) g.b_len (by rfl) (da_cons (dv 0) (da_nil))) (de_int)) (de_one (de_def h__law_is_signs_2 hr hgu (by rfl) (da_cons (de_ixA (u1 hr) (dv 0) (de_int)) (da_cons (de_callTy calld_int (by rfl) g.b_int (by rfl) (da_cons (dec (opd_eq (u64 hr)) (de_ixA (u1 hr) (dv 0) (de_int)) (de_str)) (da_nil))) (da_nil)))))))) (dss_nil))
  (dss_cons (ds_if (dtc (opd_in (u65 hr)) (de_ixA (u1 hr) (dv 0) (de_int)) (de_tup (da_cons (de_str) (da_cons (de_str) (da_nil))))) (dss_one (ds_ret (de_and (dec (opd_eq (u64 hr)) (de_callB calld_len (by rfl) g.b_len (by rfl) (da_cons (dv 0) (da_nil))) (de_int)) (de_one (de_def h__law_named_1 hr hgu (by rfl) (da_cons (de_ixA (u1 hr) (dv 0) (de_int)) (da_nil))))))) (dss_nil))
  (dss_cons (ds_if (dtc (opd_in (u65 hr)) (de_ixA (u1 hr) (dv 0) (de_int)) (de_tup (da_cons (de_str) (da_cons (de_str) (da_nil))))) (dss_cons (ds_if (dt_w (dw_or (dtc (opd_ne (u64 hr)) (de_callB calld_len (by rfl) g.b_len (by rfl) (da_cons (dv 0) (da_nil))) (de_int)) (dw_or (dt_not (dt_of (de_isinst (T := "tuple") kit_tuple (by rfl) g.b_isinstance (by rfl) (by rfl) g.b_tuple (by rfl) (de_ixA (u1 hr) (dv 0) (de_int))))) (dw_or1 (dt_not (dt_chain opd_le opd_le (de_int) (de_callB calld_len (by rfl) g.b_len (by rfl) (da_cons (de_ixA (u1 hr) (dv 0) (de_int)) (da_nil))) (de_int))))))) (dss_one (ds_ret (de_bl))) (dss_nil))
  (dss_one (ds_ret (de_callB (calld_all (by rfl)) (by rfl) g.b_all (by rfl) (da_cons (de_lc (own := [(("_law_part" : Str), 2)]) (by rfl) nd (di_of (de_ixA (u1 hr) (dv 0) (de_int))) (blkOk_by (N := N__law_is_reader) (sc := defScope s__law_is_reader) (own := [(("_law_part" : Str), 2)]) (by decide +kernel)) (fun _ _ _ _ _ => dgn 2 nd) (fun _ _ _ _ _ => dts_nil) (fun _ _ _ _ _ => de_def h__law_is_reader_2 hr hgu (by rfl) (da_cons (dv 2) (da_cons (de_op opd_sub (dv 1) (de_int)) (da_nil))))) (da_nil)))))) (dss_nil))
  (dss_cons (ds_if (dtc (opd_in (u65 hr)) (de_ixA (u1 hr) (dv 0) (de_int)) (de_tup (da_cons (de_str) (da_cons (de_str) (da_cons (de_str) (da_cons (de_str) (da_nil))))))) (dss_one (ds_ret (de_and (dec (opd_eq (u64 hr)) (de_callB calld_len (by rfl) g.b_len (by rfl) (da_cons (dv 0) (da_nil))) (de_int)) (de_one (de_def h__law_is_reader_2 hr hgu (by rfl) (da_cons (de_ixA (u1 hr) (dv 0) (de_int)) (da_cons (de_op opd_sub (dv 1) (de_int)) (da_nil)))))))) (dss_nil))
  (dss_cons (ds_if (dtc (opd_in (u65 hr)) (de_ixA (u1 hr) (dv 0) (de_int)) (de_tup (da_cons (de_str) (da_cons (de_str) (da_nil))))) (dss_one (ds_ret (de_and (dec (opd_eq (u64 hr)) (de_callB calld_len (by rfl) g.b_len (by rfl) (da_cons (dv 0) (da_nil))) (de_int)) (de_and (de_def h__law_named_1 hr hgu (by rfl) (da_cons (de_ixA (u1 hr) (dv 0) (de_int)) (da_nil))) (de_one (de_def h__law_is_reader_2 hr hgu (by rfl) (da_cons (de_ixA (u1 hr) (dv 0) (de_int)) (da_cons (de_op opd_sub (dv 1) (de_int)) (da_nil))))))))) (dss_nil))
  (dss_cons (ds_if (dt_w (dw_or (dtc (opd_ne (u64 hr)) (de_ixA (u1 hr) (dv 0) (de_int)) (de_str)) (dw_or (dtc (opd_ne (u64 hr)) (de_callB calld_len (by rfl) g.b_len (by rfl) (da_cons (dv 0) (da_nil))) (de_int)) (dw_or1 (dt_not (dt_of (de_isinst (T := "str") kit_str (by rfl) g.b_isinstance (by rfl) (by rfl) g.b_str (by rfl) (de_ixA (u1 hr) (dv 0) (de_int))))))))) (dss_one (ds_ret (de_bl))) (dss_nil))
  (dss_one (ds_ret (de_and (dec (opd_in (u65 hr)) (de_ixA (u1 hr) (dv 0) (de_int)) (de_tup (da_cons (de_str) (da_cons (de_str) (da_cons (de_str) (da_cons (de_str) (da_nil))))))) (de_one (de_def h__law_is_reader_2 hr hgu (by rfl) (da_cons (de_ixA (u1 hr) (dv 0) (de_int)) (da_cons (de_op opd_sub (dv 1) (de_int)) (da_nil))))))))))))))))
  me__law_is_reader c__law_is_signs c__law_named c__law_is_reader ▸ h
def N__law_inner : List Str := ["_law_reader_here"]
theorem sc__law_inner : FnScope N__law_inner ["_law_reader_here"] (defScope s__law_inner) := ⟨rfl, rfl, rfl, by decide +kernel, rfl, by decide +kernel, by decide +kernel⟩
def m__law_inner_0 : MS :=
  sRet (mCall cListU (aCons (mOp oIxA (mVar 0) (mVal (.int 1))) (aNil)))
def m__law_inner_1 : MS :=
  sRet (mLst (aCons (mOp oIxA (mVar 0) (mOp oSub (mCall cLen (aCons (mVar 0) (aNil))) (mVal (.int 1)))) (aNil)))
def m__law_inner_2 : MS :=
  sRet (mLst (aNil))
def m__law_inner_3 : MS :=
  sSeq (sIf (mTest (mOp oIn (mOp oIxA (mVar 0) (mVal (.int 0))) (mTup (aCons (mVal (.str ("many" : Str))) (aCons (mVal (.str ("maybe" : Str))) (aCons (mVal (.str ("ahead" : Str))) (aCons (mVal (.str ("not" : Str))) (aCons (mVal (.str ("hold" : Str))) (aCons (mVal (.str ("tag" : Str))) (aCons (mVal (.str ("make" : Str))) (aNil))))))))))) (m__law_inner_1) (sNext))
  (m__law_inner_2)
def m__law_inner_4 : MS :=
  sSeq (sIf (mTest (mOp oIn (mOp oIxA (mVar 0) (mVal (.int 0))) (mTup (aCons (mVal (.str ("row" : Str))) (aCons (mVal (.str ("choice" : Str))) (aNil)))))) (m__law_inner_0) (sNext))
  (m__law_inner_3)
def m__law_inner : MS := m__law_inner_4
def mi__law_inner : MS :=
  sSeq (sIf (mTest (mOp oIn (mOp oIxA (mVar 0) (mVal (.int 0))) (mTup (aCons (mVal (.str ("row" : Str))) (aCons (mVal (.str ("choice" : Str))) (aNil)))))) (sRet (mCall cListU (aCons (mOp oIxA (mVar 0) (mVal (.int 1))) (aNil)))) (sNext))
  (sSeq (sIf (mTest (mOp oIn (mOp oIxA (mVar 0) (mVal (.int 0))) (mTup (aCons (mVal (.str ("many" : Str))) (aCons (mVal (.str ("maybe" : Str))) (aCons (mVal (.str ("ahead" : Str))) (aCons (mVal (.str ("not" : Str))) (aCons (mVal (.str ("hold" : Str))) (aCons (mVal (.str ("tag" : Str))) (aCons (mVal (.str ("make" : Str))) (aNil))))))))))) (sRet (mLst (aCons (mOp oIxA (mVar 0) (mOp oSub (mCall cLen (aCons (mVar 0) (aNil))) (mVal (.int 1)))) (aNil)))) (sNext))
  (sRet (mLst (aNil))))
theorem me__law_inner : mi__law_inner = m__law_inner := by rfl
theorem d__law_inner {P : Program} {w : World} {K : Fg} {mg : Str → Option Value} {base : Heap} {f : Addr} {cdv : Value} {A : Around} {outer : List Env} {s : Shared} {H : Hp} {E : XK} {k : Nat} (g : Gb w K mg)
    (hr : Room k (A.deeper (envOfC "_law_inner" (defScope s__law_inner) s.heap.objs.size f cdv))) (hgu : A.guards = some []) :
    DSs (cxOf CX0 P w K mg base N__law_inner "_law_inner" (defScope s__law_inner) f cdv A outer s H E).nox (defBody s__law_inner) (m__law_inner) :=
  have nd := sc__law_inner.nd
  have h : DSs (cxOf CX0 P w K mg base N__law_inner "_law_inner" (defScope s__law_inner) f cdv A outer s H E).nox (defBody s__law_inner) (mi__law_inner) :=
  (dss_cons (ds_if (dtc (opd_in (u65 hr)) (de_ixA (u1 hr) (dv 0) (de_int)) (de_tup (da_cons (de_str) (da_cons (de_str) (da_nil))))) (dss_one (ds_ret (de_callTy (calld_listU (by rfl)) (by rfl) g.b_list (by rfl) (da_cons (de_ixA (u1 hr) (dv 0) (de_int)) (da_nil))))) (dss_nil))
  (dss_cons (ds_if (dtc (opd_in (u65 hr)) (de_ixA (u1 hr) (dv 0) (de_int)) (de_tup (da_cons (de_str) (da_cons (de_str) (da_cons (de_str) (da_cons (de_str) (da_cons (de_str) (da_cons (de_str) (da_cons (de_str) (da_nil)))))))))) (dss_one (ds_ret (de_lst (da_cons (de_ixA (u1 hr) (dv 0) (de_op opd_sub (de_callB calld_len (by rfl) g.b_len (by rfl) (da_cons (dv 0) (da_nil))) (de_int))) (da_nil))))) (dss_nil))
  (dss_one (ds_ret (de_lst (da_nil))))))
  me__law_inner ▸ h
def N__law_parts : List Str := ["_law_reader_here", "_law_found", "_law_part"]
theorem sc__law_parts : FnScope N__law_parts ["_law_reader_here"] (defScope s__law_parts) := ⟨rfl, rfl, rfl, by decide +kernel, rfl, by decide +kernel, by decide +kernel⟩
def m__law_parts_0 (c__law_inner : Ct) (c__law_parts : Ct) : MS :=
  sSet 1 (mOp oAdd (mVar 1) (mFnK c__law_parts (pick [(false, 0)]) 1 0 (aCons (mVar 2) (aNil)) (aNil)))
def m__law_parts_1 (c__law_inner : Ct) (c__law_parts : Ct) : MS :=
  sRet (mVar 1)
def m__law_parts_2 (c__law_inner : Ct) (c__law_parts : Ct) : MS :=
  sSeq (sFor (iOf (mFnK c__law_inner (pick [(false, 0)]) 1 0 (aCons (mVar 0) (aNil)) (aNil))) (gNm 2)
  (m__law_parts_0 c__law_inner c__law_parts))
  (m__law_parts_1 c__law_inner c__law_parts)
def m__law_parts_3 (c__law_inner : Ct) (c__law_parts : Ct) : MS :=
  sSeq (sSet 1 (mLst (aCons (mVar 0) (aNil))))
  (m__law_parts_2 c__law_inner c__law_parts)
def m__law_parts (c__law_inner : Ct) (c__law_parts : Ct) : MS := m__law_parts_3 c__law_inner c__law_parts
def mi__law_parts (c__law_inner : Ct) (c__law_parts : Ct) : MS :=
  sSeq (sSet 1 (mLst (aCons (mVar 0) (aNil))))
  (sSeq (sFor (iOf (mFnK c__law_inner (pick [(false, 0)]) 1 0 (aCons (mVar 0) (aNil)) (aNil))) (gNm 2)
  (sSet 1 (mOp oAdd (mVar 1) (mFnK c__law_parts (pick [(false, 0)]) 1 0 (aCons (mVar 2) (aNil)) (aNil)))))
  (sRet (mVar 1)))
theorem me__law_parts (c__law_inner : Ct) (c__law_parts : Ct) : mi__law_parts c__law_inner c__law_parts = m__law_parts c__law_inner c__law_parts := by rfl
theorem d__law_parts {P : Program} {w : World} {K : Fg} {mg : Str → Option Value} {base : Heap} {f : Addr} {cdv : Value} {A : Around} {outer : List Env} {s : Shared} {H : Hp} {E : XK} {k : Nat} {c__law_inner c__law_parts : Ct} (g : Gb w K mg)
    (h__law_inner_1 : Def P w K mg base k "_law_inner" 1 [] (pick [(false, 0)]) c__law_inner)
    (h__law_parts_1 : Def P w K mg base k "_law_parts" 1 [] (pick [(false, 0)]) c__law_parts)
    (hr : Room k (A.deeper (envOfC "_law_parts" (defScope s__law_parts) s.heap.objs.size f cdv))) (hgu : A.guards = some []) :
    DSs (cxOf CX0 P w K mg base N__law_parts "_law_parts" (defScope s__law_parts) f cdv A outer s H E).nox (defBody s__law_parts) (m__law_parts c__law_inner c__law_parts) :=
  have nd := sc__law_parts.nd
  have h : DSs (cxOf CX0 P w K mg base N__law_parts "_law_parts" (defScope s__law_parts) f cdv A outer s H E).nox (defBody s__law_parts) (mi__law_parts c__law_inner c__law_parts) :=
  (dss_cons (dst 1 nd (de_lst (da_cons (dv 0) (da_nil))))
  (dss_cons (ds_for (vs := [2]) PassesOwn.never (by rfl) (di_of (de_def h__law_inner_1 hr hgu (by rfl) (da_cons (dv 0) (da_nil)))) (dgn 2 nd)
  (dss_one (dst 1 nd (de_op opd_add (dv 1) (de_def h__law_parts_1 hr hgu (by rfl) (da_cons (dv 2) (da_nil)))))))
  (dss_one (ds_ret (dv 1)))))
  me__law_parts c__law_inner c__law_parts ▸ h
def N__law_odd : List Str := ["_law_pen", "_law_some", "_law_odd_here"]
theorem sc__law_odd : FnScope N__law_odd ["_law_pen", "_law_some"] (defScope s__law_odd) := ⟨rfl, rfl, rfl, by decide +kernel, rfl, by decide +kernel, by decide +kernel⟩
def m__law_odd_0 (c__law_all : Ct) (c__law_draw : Ct) : MS :=
  sRet (mOp oIxA (mVar 2) (mFnK c__law_draw (pick [(false, 0), (false, 1)]) 2 0 (aCons (mVar 0) (aCons (mCall cLen (aCons (mVar 2) (aNil))) (aNil))) (aNil)))
def m__law_odd_1 (c__law_all : Ct) (c__law_draw : Ct) : MS :=
  sSeq (sSet 2 (mOp oAdd (mVar 2) (mLst (aCons (mTup (aCons (mVal (.str ("sign" : Str))) (aCons (mVal (.str ("\t" : Str))) (aNil)))) (aCons (mTup (aCons (mVal (.str ("but" : Str))) (aCons (mVal (.str ("a\t" : Str))) (aNil)))) (aCons (mTup (aCons (mVal (.str ("but" : Str))) (aCons (mFnK c__law_all (pick []) 0 0 (aNil) (aNil)) (aNil)))) (aCons (mTup (aCons (mVal (.str ("sign" : Str))) (aCons (mFnK c__law_all (pick []) 0 0 (aNil) (aNil)) (aNil)))) (aCons (mTup (aCons (mVal (.str ("but" : Str))) (aCons (mSl (mFnK c__law_all (pick []) 0 0 (aNil) (aNil)) (oSome (mVal (.int 1))) (oNone)) (aNil)))) (aNil)))))))))
  (m__law_odd_0 c__law_all c__law_draw)
def m__law_odd_2 (c__law_all : Ct) (c__law_draw : Ct) : MS :=
  sSeq (sExpr (mMeth 2 tAppend (aCons (mTup (aCons (mVal (.str ("not" : Str))) (aCons (mVar 1) (aCons (mVar 1) (aNil))))) (aNil))))
  (m__law_odd_1 c__law_all c__law_draw)
def m__law_odd_3 (c__law_all : Ct) (c__law_draw : Ct) : MS :=
  sSeq (sSet 2 (mOp oAdd (mVar 2) (mLst (aCons (mTup (aCons (mVal (.str ("row" : Str))) (aCons (mOp oMulZ (mTup (aCons (mTup (aCons (mVal (.str ("never" : Str))) (aNil))) (aNil))) (mVal (.int 7))) (aNil)))) (aCons (mTup (aCons (mVal (.str ("hold" : Str))) (aCons (mVal (.str ("ninesigns" : Str))) (aCons (mVar 1) (aNil))))) (aCons (mTup (aCons (mVal (.str ("again" : Str))) (aCons (mVal (.int 7)) (aNil)))) (aCons (mTup (aCons (mVal (.str ("sign" : Str))) (aCons (mVal (.int 7)) (aNil)))) (aNil))))))))
  (m__law_odd_2 c__law_all c__law_draw)
def m__law_odd_4 (c__law_all : Ct) (c__law_draw : Ct) : MS :=
  sSeq (sSet 2 (mOp oAdd (mVar 2) (mLst (aCons (mTup (aCons (mVal (.str ("make" : Str))) (aCons (mVal (.str ("texts" : Str))) (aCons (mTup (aCons (mVal (.str ("never" : Str))) (aNil))) (aNil))))) (aCons (mTup (aCons (mVal (.str ("tag" : Str))) (aCons (mTup (aCons (mVal (.str ("never" : Str))) (aNil))) (aCons (mVal (.str ("a" : Str))) (aNil))))) (aCons (mTup (aCons (mVar 1) (aNil))) (aCons (mLst (aCons (mVar 1) (aNil))) (aCons (mTup (aCons (mVal (.str ("row" : Str))) (aCons (mLst (aCons (mVar 1) (aCons (mVar 1) (aNil)))) (aNil)))) (aNil)))))))))
  (m__law_odd_3 c__law_all c__law_draw)
def m__law_odd_5 (c__law_all : Ct) (c__law_draw : Ct) : MS :=
  sSeq (sSet 2 (mOp oAdd (mVar 2) (mLst (aCons (mTup (aCons (mVal (.str ("but" : Str))) (aCons (mVal (.str ("ba" : Str))) (aNil)))) (aCons (mTup (aCons (mVal (.str ("sign" : Str))) (aCons (mVal (.str ("a" : Str))) (aCons (mVal (.str ("b" : Str))) (aNil))))) (aCons (mTup (aCons (mVal (.str ("row" : Str))) (aCons (mTup (aCons (mTup (aCons (mVal (.str ("nothing" : Str))) (aNil))) (aNil))) (aNil)))) (aCons (mTup (aCons (mVal (.str ("choice" : Str))) (aCons (mTup (aNil)) (aNil)))) (aCons (mTup (aCons (mVal (.str ("many" : Str))) (aNil))) (aCons (mTup (aCons (mVal (.str ("name" : Str))) (aCons (mVal (.str ("A" : Str))) (aNil)))) (aNil))))))))))
  (m__law_odd_4 c__law_all c__law_draw)
def m__law_odd_6 (c__law_all : Ct) (c__law_draw : Ct) : MS :=
  sSeq (sSet 2 (mLst (aCons (mVal .none) (aCons (mVal (.bool true)) (aCons (mVal (.int 0)) (aCons (mVal (.str ("" : Str))) (aCons (mVal (.str ("a" : Str))) (aCons (mVal (.str ("ba" : Str))) (aCons (mVal (.str ("aa" : Str))) (aCons (mVal (.str ("Ab" : Str))) (aCons (mVal (.str ("nothing" : Str))) (aCons (mTup (aNil)) (aCons (mLst (aNil)) (aCons (mDNew) (aCons (mTup (aCons (mVal (.str ("nothing" : Str))) (aNil))) (aCons (mLst (aCons (mVal (.str ("nothing" : Str))) (aNil))) (aCons (mTup (aCons (mVal (.str ("sign" : Str))) (aCons (mVal (.str ("" : Str))) (aNil)))) (aNil))))))))))))))))))
  (m__law_odd_5 c__law_all c__law_draw)
def m__law_odd (c__law_all : Ct) (c__law_draw : Ct) : MS := m__law_odd_6 c__law_all c__law_draw
def mi__law_odd (c__law_all : Ct) (c__law_draw : Ct) : MS :=
  sSeq (sSet 2 (mLst (aCons (mVal .none) (aCons (mVal (.bool true)) (aCons (mVal (.int 0)) (aCons (mVal (.str ("" : Str))) (aCons (mVal (.str ("a" : Str))) (aCons (mVal (.str ("ba" : Str))) (aCons (mVal (.str ("aa" : Str))) (aCons (mVal (.str ("Ab" : Str))) (aCons (mVal (.str ("nothing" : Str))) (aCons (mTup (aNil)) (aCons (mLst (aNil)) (aCons (mDNew) (aCons (mTup (aCons (mVal (.str ("nothing" : Str))) (aNil))) (aCons (mLst (aCons (mVal (.str ("nothing" : Str))) (aNil))) (aCons (mTup (aCons (mVal (.str ("sign" : Str))) (aCons (mVal (.str ("" : Str))) (aNil)))) (aNil))))))))))))))))))
  (sSeq (sSet 2 (mOp oAdd (mVar 2) (mLst (aCons (mTup (aCons (mVal (.str ("but" : Str))) (aCons (mVal (.str ("ba" : Str))) (aNil)))) (aCons (mTup (aCons (mVal (.str ("sign" : Str))) (aCons (mVal (.str ("a" : Str))) (aCons (mVal (.str ("b" : Str))) (aNil))))) (aCons (mTup (aCons (mVal (.str ("row" : Str))) (aCons (mTup (aCons (mTup (aCons (mVal (.str ("nothing" : Str))) (aNil))) (aNil))) (aNil)))) (aCons (mTup (aCons (mVal (.str ("choice" : Str))) (aCons (mTup (aNil)) (aNil)))) (aCons (mTup (aCons (mVal (.str ("many" : Str))) (aNil))) (aCons (mTup (aCons (mVal (.str ("name" : Str))) (aCons (mVal (.str ("A" : Str))) (aNil)))) (aNil))))))))))
  (sSeq (sSet 2 (mOp oAdd (mVar 2) (mLst (aCons (mTup (aCons (mVal (.str ("make" : Str))) (aCons (mVal (.str ("texts" : Str))) (aCons (mTup (aCons (mVal (.str ("never" : Str))) (aNil))) (aNil))))) (aCons (mTup (aCons (mVal (.str ("tag" : Str))) (aCons (mTup (aCons (mVal (.str ("never" : Str))) (aNil))) (aCons (mVal (.str ("a" : Str))) (aNil))))) (aCons (mTup (aCons (mVar 1) (aNil))) (aCons (mLst (aCons (mVar 1) (aNil))) (aCons (mTup (aCons (mVal (.str ("row" : Str))) (aCons (mLst (aCons (mVar 1) (aCons (mVar 1) (aNil)))) (aNil)))) (aNil)))))))))
  (sSeq (sSet 2 (mOp oAdd (mVar 2) (mLst (aCons (mTup (aCons (mVal (.str ("row" : Str))) (aCons (mOp oMulZ (mTup (aCons (mTup (aCons (mVal (.str ("never" : Str))) (aNil))) (aNil))) (mVal (.int 7))) (aNil)))) (aCons (mTup (aCons (mVal (.str ("hold" : Str))) (aCons (mVal (.str ("ninesigns" : Str))) (aCons (mVar 1) (aNil))))) (aCons (mTup (aCons (mVal (.str ("again" : Str))) (aCons (mVal (.int 7)) (aNil)))) (aCons (mTup (aCons (mVal (.str ("sign" : Str))) (aCons (mVal (.int 7)) (aNil)))) (aNil))))))))
  (sSeq (sExpr (mMeth 2 tAppend (aCons (mTup (aCons (mVal (.str ("not" : Str))) (aCons (mVar 1) (aCons (mVar 1) (aNil))))) (aNil))))
  (sSeq (sSet 2 (mOp oAdd (mVar 2) (mLst (aCons (mTup (aCons (mVal (.str ("sign" : Str))) (aCons (mVal (.str ("\t" : Str))) (aNil)))) (aCons (mTup (aCons (mVal (.str ("but" : Str))) (aCons (mVal (.str ("a\t" : Str))) (aNil)))) (aCons (mTup (aCons (mVal (.str ("but" : Str))) (aCons (mFnK c__law_all (pick []) 0 0 (aNil) (aNil)) (aNil)))) (aCons (mTup (aCons (mVal (.str ("sign" : Str))) (aCons (mFnK c__law_all (pick []) 0 0 (aNil) (aNil)) (aNil)))) (aCons (mTup (aCons (mVal (.str ("but" : Str))) (aCons (mSl (mFnK c__law_all (pick []) 0 0 (aNil) (aNil)) (oSome (mVal (.int 1))) (oNone)) (aNil)))) (aNil)))))))))
  (sRet (mOp oIxA (mVar 2) (mFnK c__law_draw (pick [(false, 0), (false, 1)]) 2 0 (aCons (mVar 0) (aCons (mCall cLen (aCons (mVar 2) (aNil))) (aNil))) (aNil)))))))))
theorem me__law_odd (c__law_all : Ct) (c__law_draw : Ct) : mi__law_odd c__law_all c__law_draw = m__law_odd c__law_all c__law_draw := by rfl
theorem d__law_odd {P : Program} {w : World} {K : Fg} {mg : Str → Option Value} {base : Heap} {f : Addr} {cdv : Value} {A : Around} {outer : List Env} {s : Shared} {H : Hp} {E : XK} {k : Nat} {c__law_all c__law_draw : Ct} (g : Gb w K mg)
    (h__law_all_0 : Def P w K mg base k "_law_all" 0 [] (pick []) c__law_all)
    (h__law_draw_2 : Def P w K mg base k "_law_draw" 2 [] (pick [(false, 0), (false, 1)]) c__law_draw)
    (hr : Room k (A.deeper (envOfC "_law_odd" (defScope s__law_odd) s.heap.objs.size f cdv))) (hgu : A.guards = some []) :
    DSs (cxOf CX0 P w K mg base N__law_odd "_law_odd" (defScope s__law_odd) f cdv A outer s H E).nox (defBody s__law_odd) (m__law_odd c__law_all c__law_draw) :=
  have nd := sc__law_odd.nd
  have h : DSs (cxOf CX0 P w K mg base N__law_odd "_law_odd" (defScope s__law_odd) f cdv A outer s H E).nox (defBody s__law_odd) (mi__law_odd c__law_all c__law_draw) :=
  (dss_cons (dst 2 nd (de_lst (da_cons (de_non) (da_cons (de_bl) (da_cons (de_int) (da_cons (de_str) (da_cons (de_str) (da_cons (de_str) (da_cons (de_str) (da_cons (de_str) (da_cons (de_str) (da_cons (de_tup (da_nil)) (da_cons (de_lst (da_nil)) (da_cons (de_dnew) (da_cons (de_tup (da_cons (de_str) (da_nil))) (da_cons (de_lst (da_cons (de_str) (da_nil))) (da_cons (de_tup (da_cons (de_str) (da_cons (de_str) (da_nil)))) (da_nil))))))))))))))))))
  (dss_cons (dst 2 nd (de_op opd_add (dv 2) (de_lst (da_cons (de_tup (da_cons (de_str) (da_cons (de_str) (da_nil)))) (da_cons (de_tup (da_cons (de_str) (da_cons (de_str) (da_cons (de_str) (da_nil))))) (da_cons (de_tup (da_cons (de_str) (da_cons (de_tup (da_cons (de_tup (da_cons (de_str) (da_nil))) (da_nil))) (da_nil)))) (da_cons (de_tup (da_cons (de_str) (da_cons (de_tup (da_nil)) (da_nil)))) (da_cons (de_tup (da_cons (de_str) (da_nil))) (da_cons (de_tup (da_cons (de_str) (da_cons (de_str) (da_nil)))) (da_nil))))))))))
  (dss_cons (dst 2 nd (de_op opd_add (dv 2) (de_lst (da_cons (de_tup (da_cons (de_str) (da_cons (de_str) (da_cons (de_tup (da_cons (de_str) (da_nil))) (da_nil))))) (da_cons (de_tup (da_cons (de_str) (da_cons (de_tup (da_cons (de_str) (da_nil))) (da_cons (de_str) (da_nil))))) (da_cons (de_tup (da_cons (dv 1) (da_nil))) (da_cons (de_lst (da_cons (dv 1) (da_nil))) (da_cons (de_tup (da_cons (de_str) (da_cons (de_lst (da_cons (dv 1) (da_cons (dv 1) (da_nil)))) (da_nil)))) (da_nil)))))))))
  (dss_cons (dst 2 nd (de_op opd_add (dv 2) (de_lst (da_cons (de_tup (da_cons (de_str) (da_cons (de_op opd_mulZ (de_tup (da_cons (de_tup (da_cons (de_str) (da_nil))) (da_nil))) (de_int)) (da_nil)))) (da_cons (de_tup (da_cons (de_str) (da_cons (de_str) (da_cons (dv 1) (da_nil))))) (da_cons (de_tup (da_cons (de_str) (da_cons (de_int) (da_nil)))) (da_cons (de_tup (da_cons (de_str) (da_cons (de_int) (da_nil)))) (da_nil))))))))
  (dss_cons (ds_expr (de_meth (i := 2) met_append PySem.F.slot_list_append PySem.F.type_list_append (by rfl) (by first | exact .inl rfl | exact .inr (.inl rfl) | exact .inr (.inr rfl)) (da_cons (de_tup (da_cons (de_str) (da_cons (dv 1) (da_cons (dv 1) (da_nil))))) (da_nil))))
  (dss_cons (dst 2 nd (de_op opd_add (dv 2) (de_lst (da_cons (de_tup (da_cons (de_str) (da_cons (de_str) (da_nil)))) (da_cons (de_tup (da_cons (de_str) (da_cons (de_str) (da_nil)))) (da_cons (de_tup (da_cons (de_str) (da_cons (de_def0 h__law_all_0 hr hgu (by rfl)) (da_nil)))) (da_cons (de_tup (da_cons (de_str) (da_cons (de_def0 h__law_all_0 hr hgu (by rfl)) (da_nil)))) (da_cons (de_tup (da_cons (de_str) (da_cons (de_slice (de_def0 h__law_all_0 hr hgu (by rfl)) (do_some (de_int)) (do_none)) (da_nil)))) (da_nil)))))))))
  (dss_one (ds_ret (de_ixA (u1 hr) (dv 2) (de_def h__law_draw_2 hr hgu (by rfl) (da_cons (dv 0) (da_cons (de_callB calld_len (by rfl) g.b_len (by rfl) (da_cons (dv 2) (da_nil))) (da_nil)))))))))))))
  me__law_odd c__law_all c__law_draw ▸ h
def N__law_bent : List Str := ["_law_pen", "_law_some", "_law_inner_here", "_law_at", "_law_part", "_law_way", "_law_words"]
theorem sc__law_bent : FnScope N__law_bent ["_law_pen", "_law_some"] (defScope s__law_bent) := ⟨rfl, rfl, rfl, by decide +kernel, rfl, by decide +kernel, by decide +kernel⟩
def m__law_bent_0 (c__law_inner : Ct) (c__law_draw : Ct) (c__law_bent : Ct) (c__law_odd : Ct) : MS :=
  sRet (mTup (aCons (mOp oIxA (mVar 1) (mVal (.int 0))) (aCons (mOp oAdd (mOp oAdd (mSl (mOp oIxA (mVar 1) (mVal (.int 1))) (oNone) (oSome (mVar 3))) (mTup (aCons (mVar 4) (aNil)))) (mSl (mOp oIxA (mVar 1) (mVal (.int 1))) (oSome (mOp oAdd (mVar 3) (mVal (.int 1)))) (oNone))) (aNil))))
def m__law_bent_1 (c__law_inner : Ct) (c__law_draw : Ct) (c__law_bent : Ct) (c__law_odd : Ct) : MS :=
  sRet (mOp oAdd (mSl (mVar 1) (oNone) (oSome (mOp oSub (mCall cLen (aCons (mVar 1) (aNil))) (mVal (.int 1))))) (mTup (aCons (mVar 4) (aNil))))
def m__law_bent_2 (c__law_inner : Ct) (c__law_draw : Ct) (c__law_bent : Ct) (c__law_odd : Ct) : MS :=
  sSeq (sIf (mTest (mOp oIn (mOp oIxA (mVar 1) (mVal (.int 0))) (mTup (aCons (mVal (.str ("row" : Str))) (aCons (mVal (.str ("choice" : Str))) (aNil)))))) (m__law_bent_0 c__law_inner c__law_draw c__law_bent c__law_odd) (sNext))
  (m__law_bent_1 c__law_inner c__law_draw c__law_bent c__law_odd)
def m__law_bent_3 (c__law_inner : Ct) (c__law_draw : Ct) (c__law_bent : Ct) (c__law_odd : Ct) : MS :=
  sSeq (sSet 4 (mFnK c__law_bent (pick [(false, 0), (false, 1)]) 2 0 (aCons (mVar 0) (aCons (mOp oIxA (mVar 2) (mVar 3)) (aNil))) (aNil)))
  (m__law_bent_2 c__law_inner c__law_draw c__law_bent c__law_odd)
def m__law_bent_4 (c__law_inner : Ct) (c__law_draw : Ct) (c__law_bent : Ct) (c__law_odd : Ct) : MS :=
  sSeq (sSet 3 (mFnK c__law_draw (pick [(false, 0), (false, 1)]) 2 0 (aCons (mVar 0) (aCons (mSel 2 (mDLen 2) (mCall cLen (aCons (mVar 2) (aNil)))) (aNil))) (aNil)))
  (m__law_bent_3 c__law_inner c__law_draw c__law_bent c__law_odd)
def m__law_bent_5 (c__law_inner : Ct) (c__law_draw : Ct) (c__law_bent : Ct) (c__law_odd : Ct) : MS :=
  sRet (mOp oAdd (mTup (aCons (mOp oIxA (mVar 6) (mFnK c__law_draw (pick [(false, 0), (false, 1)]) 2 0 (aCons (mVar 0) (aCons (mVal (.int 11)) (aNil))) (aNil))) (aNil))) (mSl (mVar 1) (oSome (mVal (.int 1))) (oNone)))
def m__law_bent_6 (c__law_inner : Ct) (c__law_draw : Ct) (c__law_bent : Ct) (c__law_odd : Ct) : MS :=
  sSeq (sSet 6 (mLst (aCons (mVal (.str ("nothing" : Str))) (aCons (mVal (.str ("never" : Str))) (aCons (mVal (.str ("sign" : Str))) (aCons (mVal (.str ("but" : Str))) (aCons (mVal (.str ("row" : Str))) (aCons (mVal (.str ("choice" : Str))) (aCons (mVal (.str ("many" : Str))) (aCons (mVal (.str ("name" : Str))) (aCons (mVal (.str ("hold" : Str))) (aCons (mVal (.str ("make" : Str))) (aCons (mVal (.str ("none" : Str))) (aNil))))))))))))))
  (m__law_bent_5 c__law_inner c__law_draw c__law_bent c__law_odd)
def m__law_bent_7 (c__law_inner : Ct) (c__law_draw : Ct) (c__law_bent : Ct) (c__law_odd : Ct) : MS :=
  sRet (mOp oAdd (mOp oAdd (mSl (mVar 1) (oNone) (oSome (mVar 3))) (mTup (aCons (mFnK c__law_odd (pick [(false, 0), (false, 1)]) 2 0 (aCons (mVar 0) (aCons (mOp oIxA (mVar 1) (mVar 3)) (aNil))) (aNil)) (aNil)))) (mSl (mVar 1) (oSome (mOp oAdd (mVar 3) (mVal (.int 1)))) (oNone)))
def m__law_bent_8 (c__law_inner : Ct) (c__law_draw : Ct) (c__law_bent : Ct) (c__law_odd : Ct) : MS :=
  sRet (mOp oAdd (mSl (mVar 1) (oNone) (oSome (mVar 3))) (mSl (mVar 1) (oSome (mOp oAdd (mVar 3) (mVal (.int 1)))) (oNone)))
def m__law_bent_9 (c__law_inner : Ct) (c__law_draw : Ct) (c__law_bent : Ct) (c__law_odd : Ct) : MS :=
  sRet (mOp oIxA (mLst (aCons (mOp oAdd (mOp oAdd (mSl (mVar 1) (oNone) (oSome (mVar 3))) (mTup (aCons (mOp oIxA (mVar 1) (mVar 3)) (aNil)))) (mSl (mVar 1) (oSome (mVar 3)) (oNone))) (aCons (mCall cListU (aCons (mVar 1) (aNil))) (aNil)))) (mOp oSub (mVar 5) (mVal (.int 4))))
def m__law_bent_10 (c__law_inner : Ct) (c__law_draw : Ct) (c__law_bent : Ct) (c__law_odd : Ct) : MS :=
  sSeq (sIf (mTest (mOp oEq (mVar 5) (mVal (.int 3)))) (m__law_bent_8 c__law_inner c__law_draw c__law_bent c__law_odd) (sNext))
  (m__law_bent_9 c__law_inner c__law_draw c__law_bent c__law_odd)
def m__law_bent_11 (c__law_inner : Ct) (c__law_draw : Ct) (c__law_bent : Ct) (c__law_odd : Ct) : MS :=
  sSeq (sIf (mTest (mOp oLt (mVar 5) (mVal (.int 3)))) (m__law_bent_7 c__law_inner c__law_draw c__law_bent c__law_odd) (sNext))
  (m__law_bent_10 c__law_inner c__law_draw c__law_bent c__law_odd)
def m__law_bent_12 (c__law_inner : Ct) (c__law_draw : Ct) (c__law_bent : Ct) (c__law_odd : Ct) : MS :=
  sSeq (sIf (mTest (mOp oEq (mVar 5) (mVal (.int 0)))) (m__law_bent_6 c__law_inner c__law_draw c__law_bent c__law_odd) (sNext))
  (m__law_bent_11 c__law_inner c__law_draw c__law_bent c__law_odd)
def m__law_bent_13 (c__law_inner : Ct) (c__law_draw : Ct) (c__law_bent : Ct) (c__law_odd : Ct) : MS :=
  sSeq (sSet 3 (mFnK c__law_draw (pick [(false, 0), (false, 1)]) 2 0 (aCons (mVar 0) (aCons (mCall cLen (aCons (mVar 1) (aNil))) (aNil))) (aNil)))
  (m__law_bent_12 c__law_inner c__law_draw c__law_bent c__law_odd)
def m__law_bent_14 (c__law_inner : Ct) (c__law_draw : Ct) (c__law_bent : Ct) (c__law_odd : Ct) : MS :=
  sSeq (sSet 5 (mFnK c__law_draw (pick [(false, 0), (false, 1)]) 2 0 (aCons (mVar 0) (aCons (mVal (.int 6)) (aNil))) (aNil)))
  (m__law_bent_13 c__law_inner c__law_draw c__law_bent c__law_odd)
def m__law_bent_15 (c__law_inner : Ct) (c__law_draw : Ct) (c__law_bent : Ct) (c__law_odd : Ct) : MS :=
  sSeq (sIf (bAnd (mTest (mOp oNeU (mVar 2) (mLst (aNil)))) (mTest (mOp oGt (mFnK c__law_draw (pick [(false, 0), (false, 1)]) 2 0 (aCons (mVar 0) (aCons (mVal (.int 3)) (aNil))) (aNil)) (mVal (.int 0))))) (m__law_bent_4 c__law_inner c__law_draw c__law_bent c__law_odd) (sNext))
  (m__law_bent_14 c__law_inner c__law_draw c__law_bent c__law_odd)
def m__law_bent_16 (c__law_inner : Ct) (c__law_draw : Ct) (c__law_bent : Ct) (c__law_odd : Ct) : MS :=
  sSeq (sSet 2 (mFnK c__law_inner (pick [(false, 0)]) 1 0 (aCons (mVar 1) (aNil)) (aNil)))
  (m__law_bent_15 c__law_inner c__law_draw c__law_bent c__law_odd)
def m__law_bent (c__law_inner : Ct) (c__law_draw : Ct) (c__law_bent : Ct) (c__law_odd : Ct) : MS := m__law_bent_16 c__law_inner c__law_draw c__law_bent c__law_odd
def mi__law_bent (c__law_inner : Ct) (c__law_draw : Ct) (c__law_bent : Ct) (c__law_odd : Ct) : MS :=
  sSeq (sSet 2 (mFnK c__law_inner (pick [(false, 0)]) 1 0 (aCons (mVar 1) (aNil)) (aNil)))
  (sSeq (sIf (bAnd (mTest (mOp oNeU (mVar 2) (mLst (aNil)))) (mTest (mOp oGt (mFnK c__law_draw (pick [(false, 0), (false, 1)]) 2 0 (aCons (mVar 0) (aCons (mVal (.int 3)) (aNil))) (aNil)) (mVal (.int 0))))) (sSeq (sSet 3 (mFnK c__law_draw (pick [(false, 0), (false, 1)]) 2 0 (aCons (mVar 0) (aCons (mSel 2 (mDLen 2) (mCall cLen (aCons (mVar 2) (aNil)))) (aNil))) (aNil)))
  (sSeq (sSet 4 (mFnK c__law_bent (pick [(false, 0), (false, 1)]) 2 0 (aCons (mVar 0) (aCons (mOp oIxA (mVar 2) (mVar 3)) (aNil))) (aNil)))
  (sSeq (sIf (mTest (mOp oIn (mOp oIxA (mVar 1) (mVal (.int 0))) (mTup (aCons (mVal (.str ("row" : Str))) (aCons (mVal (.str ("choice" : Str))) (aNil)))))) (sRet (mTup (aCons (mOp oIxA (mVar 1) (mVal (.int 0))) (aCons (mOp oAdd (mOp oAdd (mSl (mOp oIxA (mVar 1) (mVal (.int 1))) (oNone) (oSome (mVar 3))) (mTup (aCons (mVar 4) (aNil)))) (mSl (mOp oIxA (mVar 1) (mVal (.int 1))) (oSome (mOp oAdd (mVar 3) (mVal (.int 1)))) (oNone))) (aNil))))) (sNext))
  (sRet (mOp oAdd (mSl (mVar 1) (oNone) (oSome (mOp oSub (mCall cLen (aCons (mVar 1) (aNil))) (mVal (.int 1))))) (mTup (aCons (mVar 4) (aNil)))))))) (sNext))
  (sSeq (sSet 5 (mFnK c__law_draw (pick [(false, 0), (false, 1)]) 2 0 (aCons (mVar 0) (aCons (mVal (.int 6)) (aNil))) (aNil)))
  (sSeq (sSet 3 (mFnK c__law_draw (pick [(false, 0), (false, 1)]) 2 0 (aCons (mVar 0) (aCons (mCall cLen (aCons (mVar 1) (aNil))) (aNil))) (aNil)))
  (sSeq (sIf (mTest (mOp oEq (mVar 5) (mVal (.int 0)))) (sSeq (sSet 6 (mLst (aCons (mVal (.str ("nothing" : Str))) (aCons (mVal (.str ("never" : Str))) (aCons (mVal (.str ("sign" : Str))) (aCons (mVal (.str ("but" : Str))) (aCons (mVal (.str ("row" : Str))) (aCons (mVal (.str ("choice" : Str))) (aCons (mVal (.str ("many" : Str))) (aCons (mVal (.str ("name" : Str))) (aCons (mVal (.str ("hold" : Str))) (aCons (mVal (.str ("make" : Str))) (aCons (mVal (.str ("none" : Str))) (aNil))))))))))))))
  (sRet (mOp oAdd (mTup (aCons (mOp oIxA (mVar 6) (mFnK c__law_draw (pick [(false, 0), (false, 1)]) 2 0 (aCons (mVar 0) (aCons (mVal (.int 11)) (aNil))) (aNil))) (aNil))) (mSl (mVar 1) (oSome (mVal (.int 1))) (oNone))))) (sNext))
  (sSeq (sIf (mTest (mOp oLt (mVar 5) (mVal (.int 3)))) (sRet (mOp oAdd (mOp oAdd (mSl (mVar 1) (oNone) (oSome (mVar 3))) (mTup (aCons (mFnK c__law_odd (pick [(false, 0), (false, 1)]) 2 0 (aCons (mVar 0) (aCons (mOp oIxA (mVar 1) (mVar 3)) (aNil))) (aNil)) (aNil)))) (mSl (mVar 1) (oSome (mOp oAdd (mVar 3) (mVal (.int 1)))) (oNone)))) (sNext))
  (sSeq (sIf (mTest (mOp oEq (mVar 5) (mVal (.int 3)))) (sRet (mOp oAdd (mSl (mVar 1) (oNone) (oSome (mVar 3))) (mSl (mVar 1) (oSome (mOp oAdd (mVar 3) (mVal (.int 1)))) (oNone)))) (sNext))
  (sRet (mOp oIxA (mLst (aCons (mOp oAdd (mOp oAdd (mSl (mVar 1) (oNone) (oSome (mVar 3))) (mTup (aCons (mOp oIxA (mVar 1) (mVar 3)) (aNil)))) (mSl (mVar 1) (oSome (mVar 3)) (oNone))) (aCons (mCall cListU (aCons (mVar 1) (aNil))) (aNil)))) (mOp oSub (mVar 5) (mVal (.int 4)))))))))))
theorem me__law_bent (c__law_inner : Ct) (c__law_draw : Ct) (c__law_bent : Ct) (c__law_odd : Ct) : mi__law_bent c__law_inner c__law_draw c__law_bent c__law_odd = m__law_bent c__law_inner c__law_draw c__law_bent c__law_odd := by rfl
theorem d__law_bent {P : Program} {w : World} {K : Fg} {mg : Str → Option Value} {base : Heap} {f : Addr} {cdv : Value} {A : Around} {outer : List Env} {s : Shared} {H : Hp} {E : XK} {k : Nat} {c__law_inner c__law_draw c__law_bent c__law_odd : Ct} (g : Gb w K mg)
    (h__law_inner_1 : Def P w K mg base k "_law_inner" 1 [] (pick [(false, 0)]) c__law_inner)
    (h__law_draw_2 : Def P w K mg base k "_law_draw" 2 [] (pick [(false, 0), (false, 1)]) c__law_draw)
    (h__law_bent_2 : Def P w K mg base k "_law_bent" 2 [] (pick [(false, 0), (false, 1)]) c__law_bent)
    (h__law_odd_2 : Def P w K mg base k "_law_odd" 2 [] (pick [(false, 0), (false, 1)]) c__law_odd)
    (hr : Room k (A.deeper (envOfC "_law_bent" (defScope s__law_bent) s.heap.objs.size f cdv))) (hgu : A.guards = some []) :
    DSs (cxOf CX0 P w K mg base N__law_bent "_law_bent" (defScope s__law_bent) f cdv A outer s H E).nox (defBody s__law_bent) (m__law_bent c__law_inner c__law_draw c__law_bent c__law_odd) :=
  have nd := sc__law_bent.nd
  have h : DSs (cxOf CX0 P w K mg base N__law_bent "_law_bent" (defScope s__law_bent) f cdv A outer s H E).nox (defBody s__law_bent) (mi__law_bent c__law_inner c__law_draw c__law_bent c__law_odd) :=
  (dss_cons (dst 2 nd (de_def h__law_inner_1 hr hgu (by rfl) (da_cons (dv 1) (da_nil))))
  (dss_cons (ds_if (dt_w (dw_and (dtc (opd_neU (u64 hr)) (dv 2) (de_lst (da_nil))) (dw_and1 (dtc opd_gt (de_def h__law_draw_2 hr hgu (by rfl) (da_cons (dv 0) (da_cons (de_int) (da_nil)))) (de_int))))) (dss_cons (dst 3 nd (de_def h__law_draw_2 hr hgu (by rfl) (da_cons (dv 0) (da_cons (de_sel (de_dlen (i := 2) (by rfl) g.b_len (by rfl) (by first | exact .inl rfl | exact .inr (.inl rfl) | exact .inr (.inr rfl))) (de_callB calld_len (by rfl) g.b_len (by rfl) (da_cons (dv 2) (da_nil)))) (da_nil)))))
  (dss_cons (dst 4 nd (de_def h__law_bent_2 hr hgu (by rfl) (da_cons (dv 0) (da_cons (de_ixA (u1 hr) (dv 2) (dv 3)) (da_nil)))))
  (dss_cons (ds_if (dtc (opd_in (u65 hr)) (de_ixA (u1 hr) (dv 1) (de_int)) (de_tup (da_cons (de_str) (da_cons (de_str) (da_nil))))) (dss_one (ds_ret (de_tup (da_cons (de_ixA (u1 hr) (dv 1) (de_int)) (da_cons (de_op opd_add (de_op opd_add (de_slice (de_ixA (u1 hr) (dv 1) (de_int)) (do_none) (do_some (dv 3))) (de_tup (da_cons (dv 4) (da_nil)))) (de_slice (de_ixA (u1 hr) (dv 1) (de_int)) (do_some (de_op opd_add (dv 3) (de_int))) (do_none))) (da_nil)))))) (dss_nil))
  (dss_one (ds_ret (de_op opd_add (de_slice (dv 1) (do_none) (do_some (de_op opd_sub (de_callB calld_len (by rfl) g.b_len (by rfl) (da_cons (dv 1) (da_nil))) (de_int)))) (de_tup (da_cons (dv 4) (da_nil))))))))) (dss_nil))
  (dss_cons (dst 5 nd (de_def h__law_draw_2 hr hgu (by rfl) (da_cons (dv 0) (da_cons (de_int) (da_nil)))))
  (dss_cons (dst 3 nd (de_def h__law_draw_2 hr hgu (by rfl) (da_cons (dv 0) (da_cons (de_callB calld_len (by rfl) g.b_len (by rfl) (da_cons (dv 1) (da_nil))) (da_nil)))))
  (dss_cons (ds_if (dtc (opd_eq (u64 hr)) (dv 5) (de_int)) (dss_cons (dst 6 nd (de_lst (da_cons (de_str) (da_cons (de_str) (da_cons (de_str) (da_cons (de_str) (da_cons (de_str) (da_cons (de_str) (da_cons (de_str) (da_cons (de_str) (da_cons (de_str) (da_cons (de_str) (da_cons (de_str) (da_nil))))))))))))))
  (dss_one (ds_ret (de_op opd_add (de_tup (da_cons (de_ixA (u1 hr) (dv 6) (de_def h__law_draw_2 hr hgu (by rfl) (da_cons (dv 0) (da_cons (de_int) (da_nil))))) (da_nil))) (de_slice (dv 1) (do_some (de_int)) (do_none)))))) (dss_nil))
  (dss_cons (ds_if (dtc opd_lt (dv 5) (de_int)) (dss_one (ds_ret (de_op opd_add (de_op opd_add (de_slice (dv 1) (do_none) (do_some (dv 3))) (de_tup (da_cons (de_def h__law_odd_2 hr hgu (by rfl) (da_cons (dv 0) (da_cons (de_ixA (u1 hr) (dv 1) (dv 3)) (da_nil)))) (da_nil)))) (de_slice (dv 1) (do_some (de_op opd_add (dv 3) (de_int))) (do_none))))) (dss_nil))
  (dss_cons (ds_if (dtc (opd_eq (u64 hr)) (dv 5) (de_int)) (dss_one (ds_ret (de_op opd_add (de_slice (dv 1) (do_none) (do_some (dv 3))) (de_slice (dv 1) (do_some (de_op opd_add (dv 3) (de_int))) (do_none))))) (dss_nil))
  (dss_one (ds_ret (de_ixA (u1 hr) (de_lst (da_cons (de_op opd_add (de_op opd_add (de_slice (dv 1) (do_none) (do_some (dv 3))) (de_tup (da_cons (de_ixA (u1 hr) (dv 1) (dv 3)) (da_nil)))) (de_slice (dv 1) (do_some (dv 3)) (do_none))) (da_cons (de_callTy (calld_listU (by rfl)) (by rfl) g.b_list (by rfl) (da_cons (dv 1) (da_nil))) (da_nil)))) (de_op opd_sub (dv 5) (de_int))))))))))))
  me__law_bent c__law_inner c__law_draw c__law_bent c__law_odd ▸ h
def N__law_is_book : List Str := ["_law_some", "_law_pair", "_law_names_here", "_law_name", "_law_count", "_law_reader_here", "_law_parts_here", "_law_part"]
theorem sc__law_is_book : FnScope N__law_is_book ["_law_some"] (defScope s__law_is_book) := ⟨rfl, rfl, rfl, by decide +kernel, rfl, by decide +kernel, by decide +kernel⟩
def m__law_is_book_0 (c__law_named : Ct) (c__law_is_reader : Ct) (c__law_parts : Ct) : MS :=
  sIf (mTest (mOp oNeU (mLc [7] (iOf (mVar 6)) (gNm 7) (bAnd (mTest (mOp oEq (mOp oIxA (mVar 7) (mVal (.int 0))) (mVal (.str ("name" : Str))))) (mTest (mOp oNotIn (mOp oIxA (mVar 7) (mVal (.int 1))) (mVar 2)))) (mVar 7)) (mLst (aNil)))) (sRet (mVal (.bool false))) (sNext)
def m__law_is_book_1 (c__law_named : Ct) (c__law_is_reader : Ct) (c__law_parts : Ct) : MS :=
  sSeq (sSet 4 (mOp oAdd (mVar 4) (mSel 6 (mDLen 6) (mCall cLen (aCons (mVar 6) (aNil))))))
  (m__law_is_book_0 c__law_named c__law_is_reader c__law_parts)
def m__law_is_book_2 (c__law_named : Ct) (c__law_is_reader : Ct) (c__law_parts : Ct) : MS :=
  sSeq (sSet 6 (mFnK c__law_parts (pick [(false, 0)]) 1 0 (aCons (mVar 5) (aNil)) (aNil)))
  (m__law_is_book_1 c__law_named c__law_is_reader c__law_parts)
def m__law_is_book_3 (c__law_named : Ct) (c__law_is_reader : Ct) (c__law_parts : Ct) : MS :=
  sRet (mOp oLt (mVar 4) (mVal (.int 81)))
def m__law_is_book_4 (c__law_named : Ct) (c__law_is_reader : Ct) (c__law_parts : Ct) : MS :=
  sSeq (sFor (iOf (mVar 0)) (gTp 2 (gCs (gNm 3) (gCs (gNm 5) (gNl))))
  (m__law_is_book_2 c__law_named c__law_is_reader c__law_parts))
  (m__law_is_book_3 c__law_named c__law_is_reader c__law_parts)
def m__law_is_book_5 (c__law_named : Ct) (c__law_is_reader : Ct) (c__law_parts : Ct) : MS :=
  sSeq (sSet 4 (mVal (.int 0)))
  (m__law_is_book_4 c__law_named c__law_is_reader c__law_parts)
def m__law_is_book_6 (c__law_named : Ct) (c__law_is_reader : Ct) (c__law_parts : Ct) : MS :=
  sSeq (sIf (bNot (mTru (mCall cAll (aCons (mLc [1] (iOf (mVar 0)) (gNm 1) (bYes) (mFnK c__law_is_reader (pick [(false, 0), (false, 1)]) 2 0 (aCons (mOp oIxA (mVar 1) (mVal (.int 1))) (aCons (mVal (.int 8)) (aNil))) (aNil))) (aNil))))) (sRet (mVal (.bool false))) (sNext))
  (m__law_is_book_5 c__law_named c__law_is_reader c__law_parts)
def m__law_is_book_7 (c__law_named : Ct) (c__law_is_reader : Ct) (c__law_parts : Ct) : MS :=
  sSeq (sIf (bOr (bNot (mTru (mCall cAll (aCons (mLc [3] (iOf (mVar 2)) (gNm 3) (bYes) (mFnK c__law_named (pick [(false, 0)]) 1 0 (aCons (mVar 3) (aNil)) (aNil))) (aNil))))) (mTest (mOp oLt (mLenSet (mVar 2)) (mCall cLen (aCons (mVar 2) (aNil)))))) (sRet (mVal (.bool false))) (sNext))
  (m__law_is_book_6 c__law_named c__law_is_reader c__law_parts)
def m__law_is_book_8 (c__law_named : Ct) (c__law_is_reader : Ct) (c__law_parts : Ct) : MS :=
  sSeq (sSet 2 (mLc [1] (iOf (mVar 0)) (gNm 1) (bYes) (mOp oIxA (mVar 1) (mVal (.int 0)))))
  (m__law_is_book_7 c__law_named c__law_is_reader c__law_parts)
def m__law_is_book_9 (c__law_named : Ct) (c__law_is_reader : Ct) (c__law_parts : Ct) : MS :=
  sSeq (sIf (mTest (mOp oNeU (mLc [1] (iOf (mVar 0)) (gNm 1) (bOr (bNot (mTru (mIsI "tuple" (mVar 1)))) (mTest (mOp oNe (mCall cLen (aCons (mVar 1) (aNil))) (mVal (.int 2))))) (mVar 1)) (mLst (aNil)))) (sRet (mVal (.bool false))) (sNext))
  (m__law_is_book_8 c__law_named c__law_is_reader c__law_parts)
def m__law_is_book_10 (c__law_named : Ct) (c__law_is_reader : Ct) (c__law_parts : Ct) : MS :=
  sSeq (sIf (bOr (bNot (mTru (mIsI "tuple" (mVar 0)))) (bNot (mTest (mChain oLe oLe (mVal (.int 1)) (mSel 0 (mDLen 0) (mCall cLen (aCons (mVar 0) (aNil)))) (mVal (.int 8)))))) (sRet (mVal (.bool false))) (sNext))
  (m__law_is_book_9 c__law_named c__law_is_reader c__law_parts)
def m__law_is_book (c__law_named : Ct) (c__law_is_reader : Ct) (c__law_parts : Ct) : MS := m__law_is_book_10 c__law_named c__law_is_reader c__law_parts
def mi__law_is_book (c__law_named : Ct) (c__law_is_reader : Ct) (c__law_parts : Ct) : MS :=
  sSeq (sIf (bOr (bNot (mTru (mIsI "tuple" (mVar 0)))) (bNot (mTest (mChain oLe oLe (mVal (.int 1)) (mSel 0 (mDLen 0) (mCall cLen (aCons (mVar 0) (aNil)))) (mVal (.int 8)))))) (sRet (mVal (.bool false))) (sNext))
  (sSeq (sIf (mTest (mOp oNeU (mLc [1] (iOf (mVar 0)) (gNm 1) (bOr (bNot (mTru (mIsI "tuple" (mVar 1)))) (mTest (mOp oNe (mCall cLen (aCons (mVar 1) (aNil))) (mVal (.int 2))))) (mVar 1)) (mLst (aNil)))) (sRet (mVal (.bool false))) (sNext))
  (sSeq (sSet 2 (mLc [1] (iOf (mVar 0)) (gNm 1) (bYes) (mOp oIxA (mVar 1) (mVal (.int 0)))))
  (sSeq (sIf (bOr (bNot (mTru (mCall cAll (aCons (mLc [3] (iOf (mVar 2)) (gNm 3) (bYes) (mFnK c__law_named (pick [(false, 0)]) 1 0 (aCons (mVar 3) (aNil)) (aNil))) (aNil))))) (mTest (mOp oLt (mLenSet (mVar 2)) (mCall cLen (aCons (mVar 2) (aNil)))))) (sRet (mVal (.bool false))) (sNext))
  (sSeq (sIf (bNot (mTru (mCall cAll (aCons (mLc [1] (iOf (mVar 0)) (gNm 1) (bYes) (mFnK c__law_is_reader (pick [(false, 0), (false, 1)]) 2 0 (aCons (mOp oIxA (mVar 1) (mVal (.int 1))) (aCons (mVal (.int 8)) (aNil))) (aNil))) (aNil))))) (sRet (mVal (.bool false))) (sNext))
  (sSeq (sSet 4 (mVal (.int 0)))
  (sSeq (sFor (iOf (mVar 0)) (gTp 2 (gCs (gNm 3) (gCs (gNm 5) (gNl))))
  (sSeq (sSet 6 (mFnK c__law_parts (pick [(false, 0)]) 1 0 (aCons (mVar 5) (aNil)) (aNil)))
  (sSeq (sSet 4 (mOp oAdd (mVar 4) (mSel 6 (mDLen 6) (mCall cLen (aCons (mVar 6) (aNil))))))
  (sIf (mTest (mOp oNeU (mLc [7] (iOf (mVar 6)) (gNm 7) (bAnd (mTest (mOp oEq (mOp oIxA (mVar 7) (mVal (.int 0))) (mVal (.str ("name" : Str))))) (mTest (mOp oNotIn (mOp oIxA (mVar 7) (mVal (.int 1))) (mVar 2)))) (mVar 7)) (mLst (aNil)))) (sRet (mVal (.bool false))) (sNext)))))
  (sRet (mOp oLt (mVar 4) (mVal (.int 81))))))))))
theorem me__law_is_book (c__law_named : Ct) (c__law_is_reader : Ct) (c__law_parts : Ct) : mi__law_is_book c__law_named c__law_is_reader c__law_parts = m__law_is_book c__law_named c__law_is_reader c__law_parts := by rfl
theorem d__law_is_book {P : Program} {w : World} {K : Fg} {mg : Str → Option Value} {base : Heap} {f : Addr} {cdv : Value} {A : Around} {outer : List Env} {s : Shared} {H : Hp} {E : XK} {k : Nat} {c__law_named c__law_is_reader c__law_parts : Ct} (g : Gb w K mg)
    (h__law_named_1 : Def P w K mg base k "_law_named" 1 [] (pick [(false, 0)]) c__law_named)
    (h__law_is_reader_2 : Def P w K mg base k "_law_is_reader" 2 [] (pick [(false, 0), (false, 1)]) c__law_is_reader)
    (h__law_parts_1 : Def P w K mg base k "_law_parts" 1 [] (pick [(false, 0)]) c__law_parts)
    (hr : Room k (A.deeper (envOfC "_law_is_book" (defScope s__law_is_book) s.heap.objs.size f cdv))) (hgu : A.guards = some []) :
    DSs (cxOf CX0 P w K mg base N__law_is_book "_law_is_book" (defScope s__law_is_book) f cdv A outer s H E).nox (defBody s__law_is_book) (m__law_is_book c__law_named c__law_is_reader c__law_parts) :=
  have nd := sc__law_is_book.nd
  have h : DSs (cxOf CX0 P w K mg base N__law_is_book "_law_is_book" (defScope s__law_is_book) f cdv A outer s H E).nox (defBody s__law_is_book) (mi__law_is_book c__law_named c__law_is_reader c__law_parts) :=
  (dss_cons (ds_if (dt_w (dw_or (dt_not (dt_of (de_isinst (T := "tuple") kit_tuple (by rfl) g.b_isinstance (by rfl) (by rfl) g.b_tuple (by rfl) (dv 0)))) (dw_or1 (dt_not (dt_chain opd_le opd_le (de_int) (de_sel (de_dlen (i := 0) (by rfl) g.b_len (by rfl) (by first | exact .inl rfl | exact .inr (.inl rfl) | exact .inr (.inr rfl))) (de_callB calld_len (by rfl) g.b_len (by rfl) (da_cons (dv 0) (da_nil)))) (de_int)))))) (dss_one (ds_ret (de_bl))) (dss_nil))
  (dss_cons (ds_if (dtc (opd_neU (u64 hr)) (de_lc (own := [(("_law_pair" : Str), 1)]) (by rfl) nd (di_of (dv 0)) (blkOk_by (N := N__law_is_book) (sc := defScope s__law_is_book) (own := [(("_law_pair" : Str), 1)]) (by decide +kernel)) (fun _ _ _ _ _ => dgn 1 nd) (fun _ _ _ _ _ => dts_one (dt_w (dw_or (dt_not (dt_of (de_isinst (T := "tuple") kit_tuple (by rfl) g.b_isinstance (by rfl) (by rfl) g.b_tuple (by rfl) (dv 1)))) (dw_or1 (dtc (opd_ne (u64 hr)) (de_callB calld_len (by rfl) g.b_len (by rfl) (da_cons (dv 1) (da_nil))) (de_int)))))) (fun _ _ _ _ _ => dv 1)) (de_lst (da_nil))) (dss_one (ds_ret (de_bl))) (dss_nil))
  (dss_cons (dst 2 nd (de_lc (own := [(("_law_pair" : Str), 1)]) (by rfl) nd (di_of (dv 0)) (blkOk_by (N := N__law_is_book) (sc := defScope s__law_is_book) (own := [(("_law_pair" : Str), 1)]) (by decide +kernel)) (fun _ _ _ _ _ => dgn 1 nd) (fun _ _ _ _ _ => dts_nil) (fun _ _ _ _ _ => de_ixA (u1 hr) (dv 1) (de_int))))
  (dss_cons (ds_if (dt_w (dw_or (dt_not (dt_of (de_callB (calld_all (by rfl)) (by rfl) g.b_all (by rfl) (da_cons (de_lc (own := [(("_law_name" : Str), 3)]) (by rfl) nd (di_of (dv 2)) (blkOk_by (N := N__law_is_book) (sc := defScope s__law_is_book) (own := [(("_law_name" : Str), 3)]) (by decide +kernel)) (fun _ _ _ _ _ => dgn 3 nd) (fun _ _ _ _ _ => dts_nil) (fun _ _ _ _ _ => de_def h__law_named_1 hr hgu (by rfl) (da_cons (dv 3) (da_nil)))) (da_nil))))) (dw_or1 (dtc opd_lt (de_lenSet (by rfl) (by rfl) g.b_len (by rfl) g.b_set (dv 2)) (de_callB calld_len (by rfl) g.b_len (by rfl) (da_cons (dv 2) (da_nil))))))) (dss_one (ds_ret (de_bl))) (dss_nil))
  (dss_cons (ds_if (dt_not (dt_of (de_callB (calld_all (by rfl)) (by rfl) g.b_all (by rfl) (da_cons (de_lc (own := [(("_law_pair" : Str), 1)]) (by rfl) nd (di_of (dv 0)) (blkOk_by (N := N__law_is_book) (sc := defScope s__law_is_book) (own := [(("_law_pair" : Str), 1)]) (by decide +kernel)) (fun _ _ _ _ _ => dgn 1 nd) (fun _ _ _ _ _ => dts_nil) (fun _ _ _ _ _ => de_def h__law_is_reader_2 hr hgu (by rfl) (da_cons (de_ixA (u1 hr) (dv 1) (de_int)) (da_cons (de_int) (da_nil))))) (da_nil))))) (dss_one (ds_ret (de_bl))) (dss_nil))
  (dss_cons (dst 4 nd (de_int))
  (dss_cons (ds_for (vs := [3, 5]) PassesOwn.never (by rfl) (di_of (dv 0)) (dg_tup (by rfl) (dgs_cons (dgn 3 nd) (dgs_cons (dgn 5 nd) (dgs_nil))))
  (dss_cons (dst 6 nd (de_def h__law_parts_1 hr hgu (by rfl) (da_cons (dv 5) (da_nil))))
  (dss_cons (dst 4 nd (de_op opd_add (dv 4) (de_sel (de_dlen (i := 6) (by rfl) g.b_len (by rfl) (by first | exact .inl rfl | exact .inr (.inl rfl) | exact .inr (.inr rfl))) (de_callB calld_len (by rfl) g.b_len (by rfl) (da_cons (dv 6) (da_nil))))))
  (dss_one (ds_if (dtc (opd_neU (u64 hr)) (de_lc (own := [(("_law_part" : Str), 7)]) (by rfl) nd (di_of (dv 6)) (blkOk_by (N := N__law_is_book) (sc := defScope s__law_is_book) (own := [(("_law_part" : Str), 7)]) (by decide +kernel)) (fun _ _ _ _ _ => dgn 7 nd) (fun _ _ _ _ _ => dts_one (dt_w (dw_and (dtc (opd_eq (u64 hr)) (de_ixA (u1 hr) (dv 7) (de_int)) (de_str)) (dw_and1 (dtc (opd_notin (u65 hr)) (de_ixA (u1 hr) (dv 7) (de_int)) (dv 2)))))) (fun _ _ _ _ _ => dv 7)) (de_lst (da_nil))) (dss_one (ds_ret (de_bl))) (dss_nil))))))
  (dss_one (ds_ret (dec opd_lt (dv 4) (de_int)))))))))))
  me__law_is_book c__law_named c__law_is_reader c__law_parts ▸ h
def N__law_spoilt : List Str := ["_law_pen", "_law_book_here", "_law_at", "_law_name", "_law_reader_here", "_law_way", "_law_odd_here", "_law_spoken", "_law_more", "_law_wide"]
theorem sc__law_spoilt : FnScope N__law_spoilt ["_law_pen", "_law_book_here"] (defScope s__law_spoilt) := ⟨rfl, rfl, rfl, by decide +kernel, rfl, by decide +kernel, by decide +kernel⟩
def m__law_spoilt_0 (c__law_draw : Ct) (c__law_bent : Ct) : MS :=
  sRet (mOp oAdd (mOp oAdd (mSl (mVar 1) (oNone) (oSome (mVar 2))) (mTup (aCons (mTup (aCons (mVar 3) (aCons (mFnK c__law_bent (pick [(false, 0), (false, 1)]) 2 0 (aCons (mVar 0) (aCons (mVar 4) (aNil))) (aNil)) (aNil)))) (aNil)))) (mSl (mVar 1) (oSome (mOp oAdd (mVar 2) (mVal (.int 1)))) (oNone)))
def m__law_spoilt_1 (c__law_draw : Ct) (c__law_bent : Ct) : MS :=
  sRet (mOp oAdd (mOp oAdd (mSl (mVar 1) (oNone) (oSome (mVar 2))) (mTup (aCons (mTup (aCons (mVar 6) (aCons (mVar 4) (aNil)))) (aNil)))) (mSl (mVar 1) (oSome (mOp oAdd (mVar 2) (mVal (.int 1)))) (oNone)))
def m__law_spoilt_2 (c__law_draw : Ct) (c__law_bent : Ct) : MS :=
  sSeq (sSet 6 (mOp oIxA (mLst (aCons (mVal (.str ("" : Str))) (aCons (mVal (.str ("A" : Str))) (aCons (mVal (.str ("ninesigns" : Str))) (aCons (mVal .none) (aCons (mVal (.int 7)) (aCons (mVal (.bool true)) (aCons (mLst (aCons (mVal (.str ("a" : Str))) (aNil))) (aCons (mOp oIxA (mOp oIxA (mVar 1) (mVal (.int 0))) (mVal (.int 0))) (aCons (mOp oIxA (mOp oIxA (mVar 1) (mNeg (mVal (.int 1)))) (mVal (.int 0))) (aCons (mVal (.str ("z" : Str))) (aNil)))))))))))) (mFnK c__law_draw (pick [(false, 0), (false, 1)]) 2 0 (aCons (mVar 0) (aCons (mVal (.int 10)) (aNil))) (aNil))))
  (m__law_spoilt_1 c__law_draw c__law_bent)
def m__law_spoilt_3 (c__law_draw : Ct) (c__law_bent : Ct) : MS :=
  sRet (mOp oAdd (mOp oAdd (mSl (mVar 1) (oNone) (oSome (mVar 2))) (mTup (aCons (mTup (aCons (mVar 3) (aCons (mTup (aCons (mVal (.str ("row" : Str))) (aCons (mTup (aCons (mVar 4) (aCons (mTup (aCons (mVal (.str ("name" : Str))) (aCons (mVar 7) (aNil)))) (aNil)))) (aNil)))) (aNil)))) (aNil)))) (mSl (mVar 1) (oSome (mOp oAdd (mVar 2) (mVal (.int 1)))) (oNone)))
def m__law_spoilt_4 (c__law_draw : Ct) (c__law_bent : Ct) : MS :=
  sSeq (sSet 7 (mOp oIxA (mLst (aCons (mVal (.str ("zzz" : Str))) (aCons (mVar 3) (aCons (mOp oIxA (mOp oIxA (mVar 1) (mVal (.int 0))) (mVal (.int 0))) (aNil))))) (mFnK c__law_draw (pick [(false, 0), (false, 1)]) 2 0 (aCons (mVar 0) (aCons (mVal (.int 3)) (aNil))) (aNil))))
  (m__law_spoilt_3 c__law_draw c__law_bent)
def m__law_spoilt_5 (c__law_draw : Ct) (c__law_bent : Ct) : MS :=
  sRet (mOp oAdd (mSl (mVar 1) (oNone) (oSome (mVar 2))) (mSl (mVar 1) (oSome (mOp oAdd (mVar 2) (mVal (.int 1)))) (oNone)))
def m__law_spoilt_6 (c__law_draw : Ct) (c__law_bent : Ct) : MS :=
  sRet (mOp oAdd (mOp oAdd (mSl (mVar 1) (oNone) (oSome (mVar 2))) (mTup (aCons (mOp oIxA (mVar 8) (mFnK c__law_draw (pick [(false, 0), (false, 1)]) 2 0 (aCons (mVar 0) (aCons (mVal (.int 6)) (aNil))) (aNil))) (aNil)))) (mSl (mVar 1) (oSome (mVar 2)) (oNone)))
def m__law_spoilt_7 (c__law_draw : Ct) (c__law_bent : Ct) : MS :=
  sSeq (sSet 8 (mLst (aCons (mTup (aCons (mOp oAdd (mVar 3) (mVal (.str ("q" : Str)))) (aCons (mVar 4) (aNil)))) (aCons (mTup (aCons (mVar 3) (aNil))) (aCons (mTup (aCons (mVar 3) (aCons (mVar 4) (aCons (mVar 4) (aNil))))) (aCons (mLst (aCons (mVar 3) (aCons (mVar 4) (aNil)))) (aCons (mVal .none) (aCons (mVar 3) (aNil)))))))))
  (m__law_spoilt_6 c__law_draw c__law_bent)
def m__law_spoilt_8 (c__law_draw : Ct) (c__law_bent : Ct) : MS :=
  sRet (mOp oIxA (mLst (aCons (mCall cListU (aCons (mVar 1) (aNil))) (aCons (mCall cDictU (aCons (mVar 1) (aNil))) (aCons (mOp oAdd (mVar 1) (mVar 1)) (aCons (mTup (aCons (mVar 1) (aNil))) (aCons (mRevB (mVar 1)) (aNil))))))) (mFnK c__law_draw (pick [(false, 0), (false, 1)]) 2 0 (aCons (mVar 0) (aCons (mVal (.int 5)) (aNil))) (aNil)))
def m__law_spoilt_9 (c__law_draw : Ct) (c__law_bent : Ct) : MS :=
  sRet (mOp oAdd (mOp oAdd (mSl (mVar 1) (oNone) (oSome (mVar 2))) (mTup (aCons (mTup (aCons (mVar 3) (aCons (mTup (aCons (mVal (.str ("row" : Str))) (aCons (mOp oMulZ (mTup (aCons (mVar 9) (aNil))) (mOp oAdd (mVal (.int 2)) (mFnK c__law_draw (pick [(false, 0), (false, 1)]) 2 0 (aCons (mVar 0) (aCons (mVal (.int 5)) (aNil))) (aNil)))) (aNil)))) (aNil)))) (aNil)))) (mSl (mVar 1) (oSome (mOp oAdd (mVar 2) (mVal (.int 1)))) (oNone)))
def m__law_spoilt_10 (c__law_draw : Ct) (c__law_bent : Ct) : MS :=
  sSeq (sSet 9 (mTup (aCons (mVal (.str ("row" : Str))) (aCons (mOp oMulZ (mTup (aCons (mTup (aCons (mVal (.str ("never" : Str))) (aNil))) (aNil))) (mVal (.int 6))) (aNil)))))
  (m__law_spoilt_9 c__law_draw c__law_bent)
def m__law_spoilt_11 (c__law_draw : Ct) (c__law_bent : Ct) : MS :=
  sSeq (sIf (mTest (mOp oEq (mVar 5) (mVal (.int 7)))) (m__law_spoilt_8 c__law_draw c__law_bent) (sNext))
  (m__law_spoilt_10 c__law_draw c__law_bent)
def m__law_spoilt_12 (c__law_draw : Ct) (c__law_bent : Ct) : MS :=
  sSeq (sIf (mTest (mOp oEq (mVar 5) (mVal (.int 6)))) (m__law_spoilt_7 c__law_draw c__law_bent) (sNext))
  (m__law_spoilt_11 c__law_draw c__law_bent)
def m__law_spoilt_13 (c__law_draw : Ct) (c__law_bent : Ct) : MS :=
  sSeq (sIf (mTest (mOp oEq (mVar 5) (mVal (.int 5)))) (m__law_spoilt_5 c__law_draw c__law_bent) (sNext))
  (m__law_spoilt_12 c__law_draw c__law_bent)
def m__law_spoilt_14 (c__law_draw : Ct) (c__law_bent : Ct) : MS :=
  sSeq (sIf (mTest (mOp oEq (mVar 5) (mVal (.int 4)))) (m__law_spoilt_4 c__law_draw c__law_bent) (sNext))
  (m__law_spoilt_13 c__law_draw c__law_bent)
def m__law_spoilt_15 (c__law_draw : Ct) (c__law_bent : Ct) : MS :=
  sSeq (sIf (mTest (mOp oEq (mVar 5) (mVal (.int 3)))) (m__law_spoilt_2 c__law_draw c__law_bent) (sNext))
  (m__law_spoilt_14 c__law_draw c__law_bent)
def m__law_spoilt_16 (c__law_draw : Ct) (c__law_bent : Ct) : MS :=
  sSeq (sIf (mTest (mOp oLt (mVar 5) (mVal (.int 3)))) (m__law_spoilt_0 c__law_draw c__law_bent) (sNext))
  (m__law_spoilt_15 c__law_draw c__law_bent)
def m__law_spoilt_17 (c__law_draw : Ct) (c__law_bent : Ct) : MS :=
  sSeq (sSet 5 (mFnK c__law_draw (pick [(false, 0), (false, 1)]) 2 0 (aCons (mVar 0) (aCons (mVal (.int 9)) (aNil))) (aNil)))
  (m__law_spoilt_16 c__law_draw c__law_bent)
def m__law_spoilt_18 (c__law_draw : Ct) (c__law_bent : Ct) : MS :=
  sSeq (sAsg (mOp oIxA (mVar 1) (mVar 2)) (gTp 2 (gCs (gNm 3) (gCs (gNm 4) (gNl)))))
  (m__law_spoilt_17 c__law_draw c__law_bent)
def m__law_spoilt_19 (c__law_draw : Ct) (c__law_bent : Ct) : MS :=
  sSeq (sSet 2 (mFnK c__law_draw (pick [(false, 0), (false, 1)]) 2 0 (aCons (mVar 0) (aCons (mCall cLen (aCons (mVar 1) (aNil))) (aNil))) (aNil)))
  (m__law_spoilt_18 c__law_draw c__law_bent)
def m__law_spoilt (c__law_draw : Ct) (c__law_bent : Ct) : MS := m__law_spoilt_19 c__law_draw c__law_bent
def mi__law_spoilt (c__law_draw : Ct) (c__law_bent : Ct) : MS :=
  sSeq (sSet 2 (mFnK c__law_draw (pick [(false, 0), (false, 1)]) 2 0 (aCons (mVar 0) (aCons (mCall cLen (aCons (mVar 1) (aNil))) (aNil))) (aNil)))
  (sSeq (sAsg (mOp oIxA (mVar 1) (mVar 2)) (gTp 2 (gCs (gNm 3) (gCs (gNm 4) (gNl)))))
  (sSeq (sSet 5 (mFnK c__law_draw (pick [(false, 0), (false, 1)]) 2 0 (aCons (mVar 0) (aCons (mVal (.int 9)) (aNil))) (aNil)))
  (sSeq (sIf (mTest (mOp oLt (mVar 5) (mVal (.int 3)))) (sRet (mOp oAdd (mOp oAdd (mSl (mVar 1) (oNone) (oSome (mVar 2))) (mTup (aCons (mTup (aCons (mVar 3) (aCons (mFnK c__law_bent (pick [(false, 0), (false, 1)]) 2 0 (aCons (mVar 0) (aCons (mVar 4) (aNil))) (aNil)) (aNil)))) (aNil)))) (mSl (mVar 1) (oSome (mOp oAdd (mVar 2) (mVal (.int 1)))) (oNone)))) (sNext))
  (sSeq (sIf (mTest (mOp oEq (mVar 5) (mVal (.int 3)))) (sSeq (sSet 6 (mOp oIxA (mLst (aCons (mVal (.str ("" : Str))) (aCons (mVal (.str ("A" : Str))) (aCons (mVal (.str ("ninesigns" : Str))) (aCons (mVal .none) (aCons (mVal (.int 7)) (aCons (mVal (.bool true)) (aCons (mLst (aCons (mVal (.str ("a" : Str))) (aNil))) (aCons (mOp oIxA (mOp oIxA (mVar 1) (mVal (.int 0))) (mVal (.int 0))) (aCons (mOp oIxA (mOp oIxA (mVar 1) (mNeg (mVal (.int 1)))) (mVal (.int 0))) (aCons (mVal (.str ("z" : Str))) (aNil)))))))))))) (mFnK c__law_draw (pick [(false, 0), (false, 1)]) 2 0 (aCons (mVar 0) (aCons (mVal (.int 10)) (aNil))) (aNil))))
  (sRet (mOp oAdd (mOp oAdd (mSl (mVar 1) (oNone) (oSome (mVar 2))) (mTup (aCons (mTup (aCons (mVar 6) (aCons (mVar 4) (aNil)))) (aNil)))) (mSl (mVar 1) (oSome (mOp oAdd (mVar 2) (mVal (.int 1)))) (oNone))))) (sNext))
  (sSeq (sIf (mTest (mOp oEq (mVar 5) (mVal (.int 4)))) (sSeq (sSet 7 (mOp oIxA (mLst (aCons (mVal (.str ("zzz" : Str))) (aCons (mVar 3) (aCons (mOp oIxA (mOp oIxA (mVar 1) (mVal (.int 0))) (mVal (.int 0))) (aNil))))) (mFnK c__law_draw (pick [(false, 0), (false, 1)]) 2 0 (aCons (mVar 0) (aCons (mVal (.int 3)) (aNil))) (aNil))))
  (sRet (mOp oAdd (mOp oAdd (mSl (mVar 1) (oNone) (oSome (mVar 2))) (mTup (aCons (mTup (aCons (mVar 3) (aCons (mTup (aCons (mVal (.str ("row" : Str))) (aCons (mTup (aCons (mVar 4) (aCons (mTup (aCons (mVal (.str ("name" : Str))) (aCons (mVar 7) (aNil)))) (aNil)))) (aNil)))) (aNil)))) (aNil)))) (mSl (mVar 1) (oSome (mOp oAdd (mVar 2) (mVal (.int 1)))) (oNone))))) (sNext))
  (sSeq (sIf (mTest (mOp oEq (mVar 5) (mVal (.int 5)))) (sRet (mOp oAdd (mSl (mVar 1) (oNone) (oSome (mVar 2))) (mSl (mVar 1) (oSome (mOp oAdd (mVar 2) (mVal (.int 1)))) (oNone)))) (sNext))
  (sSeq (sIf (mTest (mOp oEq (mVar 5) (mVal (.int 6)))) (sSeq (sSet 8 (mLst (aCons (mTup (aCons (mOp oAdd (mVar 3) (mVal (.str ("q" : Str)))) (aCons (mVar 4) (aNil)))) (aCons (mTup (aCons (mVar 3) (aNil))) (aCons (mTup (aCons (mVar 3) (aCons (mVar 4) (aCons (mVar 4) (aNil))))) (aCons (mLst (aCons (mVar 3) (aCons (mVar 4) (aNil)))) (aCons (mVal .none) (aCons (mVar 3) (aNil)))))))))
  (sRet (mOp oAdd (mOp oAdd (mSl (mVar 1) (oNone) (oSome (mVar 2))) (mTup (aCons (mOp oIxA (mVar 8) (mFnK c__law_draw (pick [(false, 0), (false, 1)]) 2 0 (aCons (mVar 0) (aCons (mVal (.int 6)) (aNil))) (aNil))) (aNil)))) (mSl (mVar 1) (oSome (mVar 2)) (oNone))))) (sNext))
  (sSeq (sIf (mTest (mOp oEq (mVar 5) (mVal (.int 7)))) (sRet (mOp oIxA (mLst (aCons (mCall cListU (aCons (mVar 1) (aNil))) (aCons (mCall cDictU (aCons (mVar 1) (aNil))) (aCons (mOp oAdd (mVar 1) (mVar 1)) (aCons (mTup (aCons (mVar 1) (aNil))) (aCons (mRevB (mVar 1)) (aNil))))))) (mFnK c__law_draw (pick [(false, 0), (false, 1)]) 2 0 (aCons (mVar 0) (aCons (mVal (.int 5)) (aNil))) (aNil)))) (sNext))
  (sSeq (sSet 9 (mTup (aCons (mVal (.str ("row" : Str))) (aCons (mOp oMulZ (mTup (aCons (mTup (aCons (mVal (.str ("never" : Str))) (aNil))) (aNil))) (mVal (.int 6))) (aNil)))))
  (sRet (mOp oAdd (mOp oAdd (mSl (mVar 1) (oNone) (oSome (mVar 2))) (mTup (aCons (mTup (aCons (mVar 3) (aCons (mTup (aCons (mVal (.str ("row" : Str))) (aCons (mOp oMulZ (mTup (aCons (mVar 9) (aNil))) (mOp oAdd (mVal (.int 2)) (mFnK c__law_draw (pick [(false, 0), (false, 1)]) 2 0 (aCons (mVar 0) (aCons (mVal (.int 5)) (aNil))) (aNil)))) (aNil)))) (aNil)))) (aNil)))) (mSl (mVar 1) (oSome (mOp oAdd (mVar 2) (mVal (.int 1)))) (oNone)))))))))))))
theorem me__law_spoilt (c__law_draw : Ct) (c__law_bent : Ct) : mi__law_spoilt c__law_draw c__law_bent = m__law_spoilt c__law_draw c__law_bent := by rfl
theorem d__law_spoilt {P : Program} {w : World} {K : Fg} {mg : Str → Option Value} {base : Heap} {f : Addr} {cdv : Value} {A : Around} {outer : List Env} {s : Shared} {H : Hp} {E : XK} {k : Nat} {c__law_draw c__law_bent : Ct} (g : Gb w K mg)
    (h__law_draw_2 : Def P w K mg base k "_law_draw" 2 [] (pick [(false, 0), (false, 1)]) c__law_draw)
    (h__law_bent_2 : Def P w K mg base k "_law_bent" 2 [] (pick [(false, 0), (false, 1)]) c__law_bent)
    (hr : Room k (A.deeper (envOfC "_law_spoilt" (defScope s__law_spoilt) s.heap.objs.size f cdv))) (hgu : A.guards = some []) :
    DSs (cxOf CX0 P w K mg base N__law_spoilt "_law_spoilt" (defScope s__law_spoilt) f cdv A outer s H E).nox (defBody s__law_spoilt) (m__law_spoilt c__law_draw c__law_bent) :=
  have nd := sc__law_spoilt.nd
  have h : DSs (cxOf CX0 P w K mg base N__law_spoilt "_law_spoilt" (defScope s__law_spoilt) f cdv A outer s H E).nox (defBody s__law_spoilt) (mi__law_spoilt c__law_draw c__law_bent) :=
  (dss_cons (dst 2 nd (de_def h__law_draw_2 hr hgu (by rfl) (da_cons (dv 0) (da_cons (de_callB calld_len (by rfl) g.b_len (by rfl) (da_cons (dv 1) (da_nil))) (da_nil)))))
  (dss_cons (ds_asg (vs := [3, 4]) (de_ixA (u1 hr) (dv 1) (dv 2)) (dg_tup (by rfl) (dgs_cons (dgn 3 nd) (dgs_cons (dgn 4 nd) (dgs_nil)))))
  (dss_cons (dst 5 nd (de_def h__law_draw_2 hr hgu (by rfl) (da_cons (dv 0) (da_cons (de_int) (da_nil)))))
  (dss_cons (ds_if (dtc opd_lt (dv 5) (de_int)) (dss_one (ds_ret (de_op opd_add (de_op opd_add (de_slice (dv 1) (do_none) (do_some (dv 2))) (de_tup (da_cons (de_tup (da_cons (dv 3) (da_cons (de_def h__law_bent_2 hr hgu (by rfl) (da_cons (dv 0) (da_cons (dv 4) (da_nil)))) (da_nil)))) (da_nil)))) (de_slice (dv 1) (do_some (de_op opd_add (dv 2) (de_int))) (do_none))))) (dss_nil))
  (dss_cons (ds_if (dtc (opd_eq (u64 hr)) (dv 5) (de_int)) (dss_cons (dst 6 nd (de_ixA (u1 hr) (de_lst (da_cons (de_str) (da_cons (de_str) (da_cons (de_str) (da_cons (de_non) (da_cons (de_int) (da_cons (de_bl) (da_cons (de_lst (da_cons (de_str) (da_nil))) (da_cons (de_ixA (u1 hr) (de_ixA (u1 hr) (dv 1) (de_int)) (de_int)) (da_cons (de_ixA (u1 hr) (de_ixA (u1 hr) (dv 1) (de_neg (de_int))) (de_int)) (da_cons (de_str) (da_nil)))))))))))) (de_def h__law_draw_2 hr hgu (by rfl) (da_cons (dv 0) (da_cons (de_int) (da_nil))))))
  (dss_one (ds_ret (de_op opd_add (de_op opd_add (de_slice (dv 1) (do_none) (do_some (dv 2))) (de_tup (da_cons (de_tup (da_cons (dv 6) (da_cons (dv 4) (da_nil)))) (da_nil)))) (de_slice (dv 1) (do_some (de_op opd_add (dv 2) (de_int))) (do_none)))))) (dss_nil))
  (dss_cons (ds_if (dtc (opd_eq (u64 hr)) (dv 5) (de_int)) (dss_cons (dst 7 nd (de_ixA (u1 hr) (de_lst (da_cons (de_str) (da_cons (dv 3) (da_cons (de_ixA (u1 hr) (de_ixA (u1 hr) (dv 1) (de_int)) (de_int)) (da_nil))))) (de_def h__law_draw_2 hr hgu (by rfl) (da_cons (dv 0) (da_cons (de_int) (da_nil))))))
  (dss_one (ds_ret (de_op opd_add (de_op opd_add (de_slice (dv 1) (do_none) (do_some (dv 2))) (de_tup (da_cons (de_tup (da_cons (dv 3) (da_cons (de_tup (da_cons (de_str) (da_cons (de_tup (da_cons (dv 4) (da_cons (de_tup (da_cons (de_str) (da_cons (dv 7) (da_nil)))) (da_nil)))) (da_nil)))) (da_nil)))) (da_nil)))) (de_slice (dv 1) (do_some (de_op opd_add (dv 2) (de_int))) (do_none)))))) (dss_nil))
  (dss_cons (ds_if (dtc (opd_eq (u64 hr)) (dv 5) (de_int)) (dss_one (ds_ret (de_op opd_add (de_slice (dv 1) (do_none) (do_some (dv 2))) (de_slice (dv 1) (do_some (de_op opd_add (dv 2) (de_int))) (do_none))))) (dss_nil))
  (dss_cons (ds_if (dtc (opd_eq (u64 hr)) (dv 5) (de_int)) (dss_cons (dst 8 nd (de_lst (da_cons (de_tup (da_cons (de_op opd_add (dv 3) (de_str)) (da_cons (dv 4) (da_nil)))) (da_cons (de_tup (da_cons (dv 3) (da_nil))) (da_cons (de_tup (da_cons (dv 3) (da_cons (dv 4) (da_cons (dv 4) (da_nil))))) (da_cons (de_lst (da_cons (dv 3) (da_cons (dv 4) (da_nil)))) (da_cons (de_non) (da_cons (dv 3) (da_nil)))))))))
  (dss_one (ds_ret (de_op opd_add (de_op opd_add (de_slice (dv 1) (do_none) (do_some (dv 2))) (de_tup (da_cons (de_ixA (u1 hr) (dv 8) (de_def h__law_draw_2 hr hgu (by rfl) (da_cons (dv 0) (da_cons (de_int) (da_nil))))) (da_nil)))) (de_slice (dv 1) (do_some (dv 2)) (do_none)))))) (dss_nil))
  (dss_cons (ds_if (dtc (opd_eq (u64 hr)) (dv 5) (de_int)) (dss_one (ds_ret (de_ixA (u1 hr) (de_lst (da_cons (de_callTy (calld_listU (by rfl)) (by rfl) g.b_list (by rfl) (da_cons (dv 1) (da_nil))) (da_cons (de_callTy (calld_dictU (by rfl)) (by rfl) g.b_dict (by rfl) (da_cons (dv 1) (da_nil))) (da_cons (de_op opd_add (dv 1) (dv 1)) (da_cons (de_tup (da_cons (dv 1) (da_nil))) (da_cons (de_revB (dv 1)) (da_nil))))))) (de_def h__law_draw_2 hr hgu (by rfl) (da_cons (dv 0) (da_cons (de_int) (da_nil))))))) (dss_nil))
  (dss_cons (dst 9 nd (de_tup (da_cons (de_str) (da_cons (de_op opd_mulZ (de_tup (da_cons (de_tup (da_cons (de_str) (da_nil))) (da_nil))) (de_int)) (da_nil)))))
  (dss_one (ds_ret (de_op opd_add (de_op opd_add (de_slice (dv 1) (do_none) (do_some (dv 2))) (de_tup (da_cons (de_tup (da_cons (dv 3) (da_cons (de_tup (da_cons (de_str) (da_cons (de_op opd_mulZ (de_tup (da_cons (dv 9) (da_nil))) (de_op opd_add (de_int) (de_def h__law_draw_2 hr hgu (by rfl) (da_cons (dv 0) (da_cons (de_int) (da_nil)))))) (da_nil)))) (da_nil)))) (da_nil)))) (de_slice (dv 1) (do_some (de_op opd_add (dv 2) (de_int))) (do_none)))))))))))))))
  me__law_spoilt c__law_draw c__law_bent ▸ h
def N_law : List Str := ["_law_script", "_law_pen", "_law_turn", "_law_book_here", "_law_k", "_law_one", "_law_kept", "_law_wide", "_law_many", "_law_name", "_law_size", "_law_full", "_law_some"]
theorem sc_law : FnScope N_law ["_law_script"] (defScope s_law) := ⟨rfl, rfl, rfl, by decide +kernel, rfl, by decide +kernel, by decide +kernel⟩
def m_law_0 (c__law_book : Ct) (c__law_draw : Ct) (c_is_book : Ct) (c__law_is_book : Ct) (c__law_spoilt : Ct) : MS :=
  sIf (bOr (mTest (mOp oNe (mCall cRepr (aCons (mFnK c_is_book (pick [(false, 0)]) 1 0 (aCons (mVar 5) (aNil)) (aNil)) (aNil))) (mCall cRepr (aCons (mFnK c__law_is_book (pick [(false, 0)]) 1 0 (aCons (mVar 5) (aNil)) (aNil)) (aNil))))) (mTest (mOp oNe (mCall cRepr (aCons (mVar 5) (aNil))) (mVar 6)))) (sRet (mVal (.bool false))) (sNext)
def m_law_1 (c__law_book : Ct) (c__law_draw : Ct) (c_is_book : Ct) (c__law_is_book : Ct) (c__law_spoilt : Ct) : MS :=
  sSeq (sSet 6 (mCall cRepr (aCons (mVar 5) (aNil))))
  (m_law_0 c__law_book c__law_draw c_is_book c__law_is_book c__law_spoilt)
def m_law_2 (c__law_book : Ct) (c__law_draw : Ct) (c_is_book : Ct) (c__law_is_book : Ct) (c__law_spoilt : Ct) : MS :=
  sSeq (sSet 5 (mFnK c__law_spoilt (pick [(false, 0), (false, 1)]) 2 0 (aCons (mVar 1) (aCons (mVar 3) (aNil))) (aNil)))
  (m_law_1 c__law_book c__law_draw c_is_book c__law_is_book c__law_spoilt)
def m_law_3 (c__law_book : Ct) (c__law_draw : Ct) (c_is_book : Ct) (c__law_is_book : Ct) (c__law_spoilt : Ct) : MS :=
  sFor (iRange1 (mVal (.int 8))) (gNm 4)
  (m_law_2 c__law_book c__law_draw c_is_book c__law_is_book c__law_spoilt)
def m_law_4 (c__law_book : Ct) (c__law_draw : Ct) (c_is_book : Ct) (c__law_is_book : Ct) (c__law_spoilt : Ct) : MS :=
  sSeq (sIf (bOr (mTest (mOp oIsNot (mFnK c_is_book (pick [(false, 0)]) 1 0 (aCons (mVar 3) (aNil)) (aNil)) (mVal (.bool true)))) (bNot (mTru (mFnK c__law_is_book (pick [(false, 0)]) 1 0 (aCons (mVar 3) (aNil)) (aNil))))) (sRet (mVal (.bool false))) (sNext))
  (m_law_3 c__law_book c__law_draw c_is_book c__law_is_book c__law_spoilt)
def m_law_5 (c__law_book : Ct) (c__law_draw : Ct) (c_is_book : Ct) (c__law_is_book : Ct) (c__law_spoilt : Ct) : MS :=
  sSeq (sSet 3 (mFnK c__law_book (pick [(false, 0), (false, 1)]) 2 0 (aCons (mVar 1) (aCons (mOp oIxA (mLst (aCons (mVal (.int 80)) (aCons (mVal (.int 20)) (aCons (mVal (.int 9)) (aNil))))) (mFnK c__law_draw (pick [(false, 0), (false, 1)]) 2 0 (aCons (mVar 1) (aCons (mVal (.int 3)) (aNil))) (aNil))) (aNil))) (aNil)))
  (m_law_4 c__law_book c__law_draw c_is_book c__law_is_book c__law_spoilt)
def m_law_6 (c__law_book : Ct) (c__law_draw : Ct) (c_is_book : Ct) (c__law_is_book : Ct) (c__law_spoilt : Ct) : MS :=
  sIf (mTest (mOp oNe (mCall cRepr (aCons (mFnK c_is_book (pick [(false, 0)]) 1 0 (aCons (mVar 5) (aNil)) (aNil)) (aNil))) (mCall cRepr (aCons (mFnK c__law_is_book (pick [(false, 0)]) 1 0 (aCons (mVar 5) (aNil)) (aNil)) (aNil))))) (sRet (mVal (.bool false))) (sNext)
def m_law_7 (c__law_book : Ct) (c__law_draw : Ct) (c_is_book : Ct) (c__law_is_book : Ct) (c__law_spoilt : Ct) : MS :=
  sSeq (sSet 5 (mOp oAdd (mVar 8) (mTup (aCons (mTup (aCons (mVal (.str ("c" : Str))) (aCons (mTup (aCons (mVal (.str ("choice" : Str))) (aCons (mOp oMulZ (mTup (aCons (mTup (aCons (mVal (.str ("never" : Str))) (aNil))) (aNil))) (mVar 10)) (aNil)))) (aNil)))) (aNil)))))
  (m_law_6 c__law_book c__law_draw c_is_book c__law_is_book c__law_spoilt)
def m_law_8 (c__law_book : Ct) (c__law_draw : Ct) (c_is_book : Ct) (c__law_is_book : Ct) (c__law_spoilt : Ct) : MS :=
  sSeq (sIf (mTest (mOp oNe (mCall cRepr (aCons (mFnK c_is_book (pick [(true, 0)]) 0 1 (aNil) (aCons (mVar 5) (aNil))) (aNil))) (mCall cRepr (aCons (mFnK c__law_is_book (pick [(false, 0)]) 1 0 (aCons (mVar 5) (aNil)) (aNil)) (aNil))))) (sRet (mVal (.bool false))) (sNext))
  (m_law_7 c__law_book c__law_draw c_is_book c__law_is_book c__law_spoilt)
def m_law_9 (c__law_book : Ct) (c__law_draw : Ct) (c_is_book : Ct) (c__law_is_book : Ct) (c__law_spoilt : Ct) : MS :=
  sSeq (sSet 5 (mOp oAdd (mVar 8) (mCall cTuple (aCons (mLc [9] (iOf (mSl (mVal (.str ("cdefgh" : Str))) (oNone) (oSome (mVar 10)))) (gNm 9) (bYes) (mTup (aCons (mVar 9) (aCons (mTup (aCons (mVal (.str ("never" : Str))) (aNil))) (aNil))))) (aNil)))))
  (m_law_8 c__law_book c__law_draw c_is_book c__law_is_book c__law_spoilt)
def m_law_10 (c__law_book : Ct) (c__law_draw : Ct) (c_is_book : Ct) (c__law_is_book : Ct) (c__law_spoilt : Ct) : MS :=
  sRet (mCall cAll (aCons (mLc [5] (iOf (mOp oAdd (mVar 12) (mLst (aCons (mVar 11) (aCons (mOp oAdd (mVar 11) (mTup (aCons (mTup (aCons (mVal (.str ("d" : Str))) (aCons (mTup (aCons (mVal (.str ("never" : Str))) (aNil))) (aNil)))) (aNil)))) (aNil)))))) (gNm 5) (bYes) (mOp oEq (mCall cRepr (aCons (mFnK c_is_book (pick [(false, 0)]) 1 0 (aCons (mVar 5) (aNil)) (aNil)) (aNil))) (mCall cRepr (aCons (mFnK c__law_is_book (pick [(false, 0)]) 1 0 (aCons (mVar 5) (aNil)) (aNil)) (aNil))))) (aNil)))
def m_law_11 (c__law_book : Ct) (c__law_draw : Ct) (c_is_book : Ct) (c__law_is_book : Ct) (c__law_spoilt : Ct) : MS :=
  sSeq (sSet 12 (mLst (aCons (mVal .none) (aCons (mVal (.bool true)) (aCons (mVal (.int 7)) (aCons (mVal (.str ("" : Str))) (aCons (mTup (aNil)) (aCons (mLst (aNil)) (aCons (mDNew) (aCons (mTup (aCons (mTup (aCons (mVal (.str ("a" : Str))) (aNil))) (aNil))) (aCons (mTup (aCons (mTup (aCons (mVal (.str ("a" : Str))) (aCons (mTup (aCons (mVal (.str ("never" : Str))) (aNil))) (aNil)))) (aNil))) (aCons (mLst (aCons (mTup (aCons (mVal (.str ("a" : Str))) (aCons (mTup (aCons (mVal (.str ("never" : Str))) (aNil))) (aNil)))) (aNil))) (aCons (mTup (aCons (mVal (.str ("a" : Str))) (aCons (mTup (aCons (mVal (.str ("never" : Str))) (aNil))) (aNil)))) (aNil))))))))))))))
  (m_law_10 c__law_book c__law_draw c_is_book c__law_is_book c__law_spoilt)
def m_law_12 (c__law_book : Ct) (c__law_draw : Ct) (c_is_book : Ct) (c__law_is_book : Ct) (c__law_spoilt : Ct) : MS :=
  sSeq (sSet 11 (mOp oAdd (mVar 8) (mTup (aCons (mTup (aCons (mVal (.str ("c" : Str))) (aCons (mTup (aCons (mVal (.str ("row" : Str))) (aCons (mOp oMulZ (mTup (aCons (mTup (aCons (mVal (.str ("never" : Str))) (aNil))) (aNil))) (mVal (.int 5))) (aNil)))) (aNil)))) (aNil)))))
  (m_law_11 c__law_book c__law_draw c_is_book c__law_is_book c__law_spoilt)
def m_law_13 (c__law_book : Ct) (c__law_draw : Ct) (c_is_book : Ct) (c__law_is_book : Ct) (c__law_spoilt : Ct) : MS :=
  sSeq (sFor (iRange1 (mVal (.int 7))) (gNm 10)
  (m_law_9 c__law_book c__law_draw c_is_book c__law_is_book c__law_spoilt))
  (m_law_12 c__law_book c__law_draw c_is_book c__law_is_book c__law_spoilt)
def m_law_14 (c__law_book : Ct) (c__law_draw : Ct) (c_is_book : Ct) (c__law_is_book : Ct) (c__law_spoilt : Ct) : MS :=
  sSeq (sSet 8 (mCall cTuple (aCons (mLc [9] (iOf (mTup (aCons (mVal (.str ("a" : Str))) (aCons (mVal (.str ("b" : Str))) (aNil))))) (gNm 9) (bYes) (mTup (aCons (mVar 9) (aCons (mTup (aCons (mVal (.str ("row" : Str))) (aCons (mOp oMulZ (mTup (aCons (mVar 7) (aNil))) (mVal (.int 6))) (aNil)))) (aNil))))) (aNil))))
  (m_law_13 c__law_book c__law_draw c_is_book c__law_is_book c__law_spoilt)
def m_law_15 (c__law_book : Ct) (c__law_draw : Ct) (c_is_book : Ct) (c__law_is_book : Ct) (c__law_spoilt : Ct) : MS :=
  sSeq (sSet 7 (mTup (aCons (mVal (.str ("row" : Str))) (aCons (mOp oMulZ (mTup (aCons (mTup (aCons (mVal (.str ("never" : Str))) (aNil))) (aNil))) (mVal (.int 5))) (aNil)))))
  (m_law_14 c__law_book c__law_draw c_is_book c__law_is_book c__law_spoilt)
def m_law_16 (c__law_book : Ct) (c__law_draw : Ct) (c_is_book : Ct) (c__law_is_book : Ct) (c__law_spoilt : Ct) : MS :=
  sSeq (sFor (iRange1 (mVal (.int 4))) (gNm 2)
  (m_law_5 c__law_book c__law_draw c_is_book c__law_is_book c__law_spoilt))
  (m_law_15 c__law_book c__law_draw c_is_book c__law_is_book c__law_spoilt)
def m_law_17 (c__law_book : Ct) (c__law_draw : Ct) (c_is_book : Ct) (c__law_is_book : Ct) (c__law_spoilt : Ct) : MS :=
  sSeq (sSet 1 (mLst (aCons (mCall cListU (aCons (mSlS (mVar 0) (oNone) (oSome (mVal (.int 63)))) (aNil))) (aCons (mVal (.int 0)) (aCons (mVal (.int 0)) (aNil))))))
  (m_law_16 c__law_book c__law_draw c_is_book c__law_is_book c__law_spoilt)
def m_law (c__law_book : Ct) (c__law_draw : Ct) (c_is_book : Ct) (c__law_is_book : Ct) (c__law_spoilt : Ct) : MS := m_law_17 c__law_book c__law_draw c_is_book c__law_is_book c__law_spoilt
def mi_law (c__law_book : Ct) (c__law_draw : Ct) (c_is_book : Ct) (c__law_is_book : Ct) (c__law_spoilt : Ct) : MS :=
  sSeq (sSet 1 (mLst (aCons (mCall cListU (aCons (mSlS (mVar 0) (oNone) (oSome (mVal (.int 63)))) (aNil))) (aCons (mVal (.int 0)) (aCons (mVal (.int 0)) (aNil))))))
  (sSeq (sFor (iRange1 (mVal (.int 4))) (gNm 2)
  (sSeq (sSet 3 (mFnK c__law_book (pick [(false, 0), (false, 1)]) 2 0 (aCons (mVar 1) (aCons (mOp oIxA (mLst (aCons (mVal (.int 80)) (aCons (mVal (.int 20)) (aCons (mVal (.int 9)) (aNil))))) (mFnK c__law_draw (pick [(false, 0), (false, 1)]) 2 0 (aCons (mVar 1) (aCons (mVal (.int 3)) (aNil))) (aNil))) (aNil))) (aNil)))
  (sSeq (sIf (bOr (mTest (mOp oIsNot (mFnK c_is_book (pick [(false, 0)]) 1 0 (aCons (mVar 3) (aNil)) (aNil)) (mVal (.bool true)))) (bNot (mTru (mFnK c__law_is_book (pick [(false, 0)]) 1 0 (aCons (mVar 3) (aNil)) (aNil))))) (sRet (mVal (.bool false))) (sNext))
  (sFor (iRange1 (mVal (.int 8))) (gNm 4)
  (sSeq (sSet 5 (mFnK c__law_spoilt (pick [(false, 0), (false, 1)]) 2 0 (aCons (mVar 1) (aCons (mVar 3) (aNil))) (aNil)))
  (sSeq (sSet 6 (mCall cRepr (aCons (mVar 5) (aNil))))
  (sIf (bOr (mTest (mOp oNe (mCall cRepr (aCons (mFnK c_is_book (pick [(false, 0)]) 1 0 (aCons (mVar 5) (aNil)) (aNil)) (aNil))) (mCall cRepr (aCons (mFnK c__law_is_book (pick [(false, 0)]) 1 0 (aCons (mVar 5) (aNil)) (aNil)) (aNil))))) (mTest (mOp oNe (mCall cRepr (aCons (mVar 5) (aNil))) (mVar 6)))) (sRet (mVal (.bool false))) (sNext))))))))
  (sSeq (sSet 7 (mTup (aCons (mVal (.str ("row" : Str))) (aCons (mOp oMulZ (mTup (aCons (mTup (aCons (mVal (.str ("never" : Str))) (aNil))) (aNil))) (mVal (.int 5))) (aNil)))))
  (sSeq (sSet 8 (mCall cTuple (aCons (mLc [9] (iOf (mTup (aCons (mVal (.str ("a" : Str))) (aCons (mVal (.str ("b" : Str))) (aNil))))) (gNm 9) (bYes) (mTup (aCons (mVar 9) (aCons (mTup (aCons (mVal (.str ("row" : Str))) (aCons (mOp oMulZ (mTup (aCons (mVar 7) (aNil))) (mVal (.int 6))) (aNil)))) (aNil))))) (aNil))))
  (sSeq (sFor (iRange1 (mVal (.int 7))) (gNm 10)
  (sSeq (sSet 5 (mOp oAdd (mVar 8) (mCall cTuple (aCons (mLc [9] (iOf (mSl (mVal (.str ("cdefgh" : Str))) (oNone) (oSome (mVar 10)))) (gNm 9) (bYes) (mTup (aCons (mVar 9) (aCons (mTup (aCons (mVal (.str ("never" : Str))) (aNil))) (aNil))))) (aNil)))))
  (sSeq (sIf (mTest (mOp oNe (mCall cRepr (aCons (mFnK c_is_book (pick [(true, 0)]) 0 1 (aNil) (aCons (mVar 5) (aNil))) (aNil))) (mCall cRepr (aCons (mFnK c__law_is_book (pick [(false, 0)]) 1 0 (aCons (mVar 5) (aNil)) (aNil)) (aNil))))) (sRet (mVal (.bool false))) (sNext))
  (sSeq (sSet 5 (mOp oAdd (mVar 8) (mTup (aCons (mTup (aCons (mVal (.str ("c" : Str))) (aCons (mTup (aCons (mVal (.str ("choice" : Str))) (aCons (mOp oMulZ (mTup (aCons (mTup (aCons (mVal (.str ("never" : Str))) (aNil))) (aNil))) (mVar 10)) (aNil)))) (aNil)))) (aNil)))))
  (sIf (mTest (mOp oNe (mCall cRepr (aCons (mFnK c_is_book (pick [(false, 0)]) 1 0 (aCons (mVar 5) (aNil)) (aNil)) (aNil))) (mCall cRepr (aCons (mFnK c__law_is_book (pick [(false, 0)]) 1 0 (aCons (mVar 5) (aNil)) (aNil)) (aNil))))) (sRet (mVal (.bool false))) (sNext))))))
  (sSeq (sSet 11 (mOp oAdd (mVar 8) (mTup (aCons (mTup (aCons (mVal (.str ("c" : Str))) (aCons (mTup (aCons (mVal (.str ("row" : Str))) (aCons (mOp oMulZ (mTup (aCons (mTup (aCons (mVal (.str ("never" : Str))) (aNil))) (aNil))) (mVal (.int 5))) (aNil)))) (aNil)))) (aNil)))))
  (sSeq (sSet 12 (mLst (aCons (mVal .none) (aCons (mVal (.bool true)) (aCons (mVal (.int 7)) (aCons (mVal (.str ("" : Str))) (aCons (mTup (aNil)) (aCons (mLst (aNil)) (aCons (mDNew) (aCons (mTup (aCons (mTup (aCons (mVal (.str ("a" : Str))) (aNil))) (aNil))) (aCons (mTup (aCons (mTup (aCons (mVal (.str ("a" : Str))) (aCons (mTup (aCons (mVal (.str ("never" : Str))) (aNil))) (aNil)))) (aNil))) (aCons (mLst (aCons (mTup (aCons (mVal (.str ("a" : Str))) (aCons (mTup (aCons (mVal (.str ("never" : Str))) (aNil))) (aNil)))) (aNil))) (aCons (mTup (aCons (mVal (.str ("a" : Str))) (aCons (mTup (aCons (mVal (.str ("never" : Str))) (aNil))) (aNil)))) (aNil))))))))))))))
  (sRet (mCall cAll (aCons (mLc [5] (iOf (mOp oAdd (mVar 12) (mLst (aCons (mVar 11) (aCons (mOp oAdd (mVar 11) (mTup (aCons (mTup (aCons (mVal (.str ("d" : Str))) (aCons (mTup (aCons (mVal (.str ("never" : Str))) (aNil))) (aNil)))) (aNil)))) (aNil)))))) (gNm 5) (bYes) (mOp oEq (mCall cRepr (aCons (mFnK c_is_book (pick [(false, 0)]) 1 0 (aCons (mVar 5) (aNil)) (aNil)) (aNil))) (mCall cRepr (aCons (mFnK c__law_is_book (pick [(false, 0)]) 1 0 (aCons (mVar 5) (aNil)) (aNil)) (aNil))))) (aNil))))))))))
theorem me_law (c__law_book : Ct) (c__law_draw : Ct) (c_is_book : Ct) (c__law_is_book : Ct) (c__law_spoilt : Ct) : mi_law c__law_book c__law_draw c_is_book c__law_is_book c__law_spoilt = m_law c__law_book c__law_draw c_is_book c__law_is_book c__law_spoilt := by rfl
theorem d_law {P : Program} {w : World} {K : Fg} {mg : Str → Option Value} {base : Heap} {f : Addr} {cdv : Value} {A : Around} {outer : List Env} {s : Shared} {H : Hp} {E : XK} {k : Nat} {c__law_book c__law_draw c_is_book c__law_is_book c__law_spoilt : Ct} (g : Gb w K mg)
    (h__law_book_2 : Def P w K mg base k "_law_book" 2 [] (pick [(false, 0), (false, 1)]) c__law_book)
    (h__law_draw_2 : Def P w K mg base k "_law_draw" 2 [] (pick [(false, 0), (false, 1)]) c__law_draw)
    (h_is_book_1 : Def P w K mg base k "is_book" 1 [] (pick [(false, 0)]) c_is_book)
    (h__law_is_book_1 : Def P w K mg base k "_law_is_book" 1 [] (pick [(false, 0)]) c__law_is_book)
    (h__law_spoilt_2 : Def P w K mg base k "_law_spoilt" 2 [] (pick [(false, 0), (false, 1)]) c__law_spoilt)
    (h_is_book_0_thing : Def P w K mg base k "is_book" 0 ["thing"] (pick [(true, 0)]) c_is_book)
    (hr : Room k (A.deeper (envOfC "law" (defScope s_law) s.heap.objs.size f cdv))) (hgu : A.guards = some []) :
    DSs (cxOf CX0 P w K mg base N_law "law" (defScope s_law) f cdv A outer s H E).nox (defBody s_law) (m_law c__law_book c__law_draw c_is_book c__law_is_book c__law_spoilt) :=
  have nd := sc_law.nd
  have h : DSs (cxOf CX0 P w K mg base N_law "law" (defScope s_law) f cdv A outer s H E).nox (defBody s_law) (mi_law c__law_book c__law_draw c_is_book c__law_is_book c__law_spoilt) :=
  (dss_cons (dst 1 nd (de_lst (da_cons (de_callTy (calld_listU (by rfl)) (by rfl) g.b_list (by rfl) (da_cons (de_sliceS (dv 0) (do_none) (do_some (de_int))) (da_nil))) (da_cons (de_int) (da_cons (de_int) (da_nil))))))
  (dss_cons (ds_for (vs := [2]) PassesOwn.never (by rfl) (di_range1 (by rfl) g.b_range (de_int)) (dgn 2 nd)
  (dss_cons (dst 3 nd (de_def h__law_book_2 hr hgu (by rfl) (da_cons (dv 1) (da_cons (de_ixA (u1 hr) (de_lst (da_cons (de_int) (da_cons (de_int) (da_cons (de_int) (da_nil))))) (de_def h__law_draw_2 hr hgu (by rfl) (da_cons (dv 1) (da_cons (de_int) (da_nil))))) (da_nil)))))
  (dss_cons (ds_if (dt_w (dw_or (dtc opd_isnot (de_def h_is_book_1 hr hgu (by rfl) (da_cons (dv 3) (da_nil))) (de_bl)) (dw_or1 (dt_not (dt_of (de_def h__law_is_book_1 hr hgu (by rfl) (da_cons (dv 3) (da_nil)))))))) (dss_one (ds_ret (de_bl))) (dss_nil))
  (dss_one (ds_for (vs := [4]) PassesOwn.never (by rfl) (di_range1 (by rfl) g.b_range (de_int)) (dgn 4 nd)
  (dss_cons (dst 5 nd (de_def h__law_spoilt_2 hr hgu (by rfl) (da_cons (dv 1) (da_cons (dv 3) (da_nil)))))
  (dss_cons (dst 6 nd (de_callB (calld_repr hgu (u66 hr)) (by rfl) g.b_repr (by rfl) (da_cons (dv 5) (da_nil))))
  (dss_one (ds_if (dt_w (dw_or (dtc (opd_ne (u64 hr)) (de_callB (calld_repr hgu (u66 hr)) (by rfl) g.b_repr (by rfl) (da_cons (de_def h_is_book_1 hr hgu (by rfl) (da_cons (dv 5) (da_nil))) (da_nil))) (de_callB (calld_repr hgu (u66 hr)) (by rfl) g.b_repr (by rfl) (da_cons (de_def h__law_is_book_1 hr hgu (by rfl) (da_cons (dv 5) (da_nil))) (da_nil)))) (dw_or1 (dtc (opd_ne (u64 hr)) (de_callB (calld_repr hgu (u66 hr)) (by rfl) g.b_repr (by rfl) (da_cons (dv 5) (da_nil))) (dv 6))))) (dss_one (ds_ret (de_bl))) (dss_nil))))))))))
  (dss_cons (dst 7 nd (de_tup (da_cons (de_str) (da_cons (de_op opd_mulZ (de_tup (da_cons (de_tup (da_cons (de_str) (da_nil))) (da_nil))) (de_int)) (da_nil)))))
  (dss_cons (dst 8 nd (de_callTy calld_tuple (by rfl) g.b_tuple (by rfl) (da_cons (de_lc (own := [(("_law_name" : Str), 9)]) (by rfl) nd (di_of (de_tup (da_cons (de_str) (da_cons (de_str) (da_nil))))) (blkOk_by (N := N_law) (sc := defScope s_law) (own := [(("_law_name" : Str), 9)]) (by decide +kernel)) (fun _ _ _ _ _ => dgn 9 nd) (fun _ _ _ _ _ => dts_nil) (fun _ _ _ _ _ => de_tup (da_cons (dv 9) (da_cons (de_tup (da_cons (de_str) (da_cons (de_op opd_mulZ (de_tup (da_cons (dv 7) (da_nil))) (de_int)) (da_nil)))) (da_nil))))) (da_nil))))
  (dss_cons (ds_for (vs := [10]) PassesOwn.never (by rfl) (di_range1 (by rfl) g.b_range (de_int)) (dgn 10 nd)
  (dss_cons (dst 5 nd (de_op opd_add (dv 8) (de_callTy calld_tuple (by rfl) g.b_tuple (by rfl) (da_cons (de_lc (own := [(("_law_name" : Str), 9)]) (by rfl) nd (di_of (de_slice (de_str) (do_none) (do_some (dv 10)))) (blkOk_by (N := N_law) (sc := defScope s_law) (own := [(("_law_name" : Str), 9)]) (by decide +kernel)) (fun _ _ _ _ _ => dgn 9 nd) (fun _ _ _ _ _ => dts_nil) (fun _ _ _ _ _ => de_tup (da_cons (dv 9) (da_cons (de_tup (da_cons (de_str) (da_nil))) (da_nil))))) (da_nil)))))
  (dss_cons (ds_if (dtc (opd_ne (u64 hr)) (de_callB (calld_repr hgu (u66 hr)) (by rfl) g.b_repr (by rfl) (da_cons (de_defK0 (ks := ["thing"]) h_is_book_0_thing hr hgu (by rfl) (dk_cons (dv 5) (dk_nil))) (da_nil))) (de_callB (calld_repr hgu (u66 hr)) (by rfl) g.b_repr (by rfl) (da_cons (de_def h__law_is_book_1 hr hgu (by rfl) (da_cons (dv 5) (da_nil))) (da_nil)))) (dss_one (ds_ret (de_bl))) (dss_nil))
  (dss_cons (dst 5 nd (de_op opd_add (dv 8) (de_tup (da_cons (de_tup (da_cons (de_str) (da_cons (de_tup (da_cons (de_str) (da_cons (de_op opd_mulZ (de_tup (da_cons (de_tup (da_cons (de_str) (da_nil))) (da_nil))) (dv 10)) (da_nil)))) (da_nil)))) (da_nil)))))
  (dss_one (ds_if (dtc (opd_ne (u64 hr)) (de_callB (calld_repr hgu (u66 hr)) (by rfl) g.b_repr (by rfl) (da_cons (de_def h_is_book_1 hr hgu (by rfl) (da_cons (dv 5) (da_nil))) (da_nil))) (de_callB (calld_repr hgu (u66 hr)) (by rfl) g.b_repr (by rfl) (da_cons (de_def h__law_is_book_1 hr hgu (by rfl) (da_cons (dv 5) (da_nil))) (da_nil)))) (dss_one (ds_ret (de_bl))) (dss_nil)))))))
  (dss_cons (dst 11 nd (de_op opd_add (dv 8) (de_tup (da_cons (de_tup (da_cons (de_str) (da_cons (de_tup (da_cons (de_str) (da_cons (de_op opd_mulZ (de_tup (da_cons (de_tup (da_cons (de_str) (da_nil))) (da_nil))) (de_int)) (da_nil)))) (da_nil)))) (da_nil)))))
  (dss_cons (dst 12 nd (de_lst (da_cons (de_non) (da_cons (de_bl) (da_cons (de_int) (da_cons (de_str) (da_cons (de_tup (da_nil)) (da_cons (de_lst (da_nil)) (da_cons (de_dnew) (da_cons (de_tup (da_cons (de_tup (da_cons (de_str) (da_nil))) (da_nil))) (da_cons (de_tup (da_cons (de_tup (da_cons (de_str) (da_cons (de_tup (da_cons (de_str) (da_nil))) (da_nil)))) (da_nil))) (da_cons (de_lst (da_cons (de_tup (da_cons (de_str) (da_cons (de_tup (da_cons (de_str) (da_nil))) (da_nil)))) (da_nil))) (da_cons (de_tup (da_cons (de_str) (da_cons (de_tup (da_cons (de_str) (da_nil))) (da_nil)))) (da_nil))))))))))))))
  (dss_one (ds_ret (de_callB (calld_all (by rfl)) (by rfl) g.b_all (by rfl) (da_cons (de_lc (own := [(("_law_one" : Str), 5)]) (by rfl) nd (di_of (de_op opd_add (dv 12) (de_lst (da_cons (dv 11) (da_cons (de_op opd_add (dv 11) (de_tup (da_cons (de_tup (da_cons (de_str) (da_cons (de_tup (da_cons (de_str) (da_nil))) (da_nil)))) (da_nil)))) (da_nil)))))) (blkOk_by (N := N_law) (sc := defScope s_law) (own := [(("_law_one" : Str), 5)]) (by decide +kernel)) (fun _ _ _ _ _ => dgn 5 nd) (fun _ _ _ _ _ => dts_nil) (fun _ _ _ _ _ => dec (opd_eq (u64 hr)) (de_callB (calld_repr hgu (u66 hr)) (by rfl) g.b_repr (by rfl) (da_cons (de_def h_is_book_1 hr hgu (by rfl) (da_cons (dv 5) (da_nil))) (da_nil))) (de_callB (calld_repr hgu (u66 hr)) (by rfl) g.b_repr (by rfl) (da_cons (de_def h__law_is_book_1 hr hgu (by rfl) (da_cons (dv 5) (da_nil))) (da_nil))))) (da_nil))))))))))))
  me_law c__law_book c__law_draw c_is_book c__law_is_book c__law_spoilt ▸ h
end L04
namespace L04
open PySem L2 PyProof.Rows DL
local macro_rules | `(tactic| walk_at "G") => `(tactic| ((conv => whnf); try dsimp only [DL.MB.toD, DL.cellOf]))
local macro_rules | `(tactic| walk_at "O") => `(tactic| first | assumption | omega | (refine ⟨?_, ?_⟩ <;> first | assumption | omega) | (simp only [DL.app_len]; omega) | (simp only [List.length_append, List.length_cons, List.length_nil, List.length_map]; omega))
local macro_rules | `(tactic| walk_at "P") => `(tactic| first | omega | (simp only [List.length_map]; omega))
local macro_rules | `(tactic| walk_at "R") => `(tactic| (walk_at "G"; repeat ((first | (apply DL.Rq.mk; (· walk_at "O")) | (apply DL.on_i; (· assumption)) | (apply DL.rqB.mk; (· exact DL.okR_of (by walk_at "P") (by walk_at "P"))) | (apply DL.rqB.mk; (· exact DL.okR2_of (by walk_at "P") (by walk_at "P") (by walk_at "P") (by walk_at "P")))); walk_at "G")))
local macro_rules | `(tactic| walk_at "N") => `(tactic| (walk_at "R"; repeat ((first | (refine And.intro rfl ?_) | (refine And.intro (of_decide_eq_true rfl) ?_) | (refine And.intro (by decide) ?_)); walk_at "R")))
def c_text : Ct := fun as P => ∃ (d : D) (most : Int), as = [.val d, .val (.int most)] ∧ Fit d ∧ P (.val (.bool (isText most d))) [.val d, .val (.int most)]
theorem use_text {d : D} {most : Int} {P : R → List Ar → Prop} (h : Fit d) (q : P (.val (.bool (isText most d))) [.val d, .val (.int most)]) : Cl c_text [.val d, .val (.int most)] P := ⟨d, most, rfl, h, q⟩
theorem w_text (as : List Ar) (P : R → List Ar → Prop) (h : c_text as P) : ctOf 3 m_is_text as P := by
  obtain ⟨d, most, rfl, hf, hP⟩ := h
  have sl := sizeLine_eq
  cases d with
  | str x =>
    have hx := hf.str
    have hx2 : x.cps.size ≤ 1000000 := hx
    have hb := blsOf_map inS x.cps.toList
    walk_at "R"
    apply br_d <;> intro hd
    · have e : isText most (.str x) = x.cps.toList.all inS := by
        show (decide ((x.length : Int) ≤ most) && _) = _
        rw [decide_eq_true hd]; rfl
      rw [e, ← all_map] at hP
      walk_at "R"
      refine lc_list (as := x.cps.toList) (fun c => .str ⟨#[c]⟩) (fun c => .bool (inS c)) (fun c hc ds acc ha hk => ?_) (by rw [Array.length_toList]; omega) ?_
      · walk_at "R"
        rw [Bool.false_xor, strIn_one]
        exact hk
      · walk_at "R"
        exact hP
    · have e : isText most (.str x) = false := by
        show (decide ((x.length : Int) ≤ most) && _) = _
        rw [decide_eq_false hd]; rfl
      rw [e] at hP
      walk_at "R"
      rw [decide_eq_false hd]
      exact hP
  | none => walk_at "R"; exact hP
  | bool b => walk_at "R"; exact hP
  | int i => walk_at "R"; exact hP
  | list ds => walk_at "R"; exact hP
  | tuple ds => walk_at "R"; exact hP
  | dict kvs => walk_at "R"; exact hP
def c_sgn : Ct := fun as P => ∃ (d : D) (least : Int), as = [.val d, .val (.int least)] ∧ Fit d ∧ P (.val (.bool (isSigns least d))) [.val d, .val (.int least)]
theorem use_sgn {d : D} {least : Int} {P : R → List Ar → Prop} (h : Fit d) (q : P (.val (.bool (isSigns least d))) [.val d, .val (.int least)]) : Cl c_sgn [.val d, .val (.int least)] P := ⟨d, least, rfl, h, q⟩
theorem w_sgn (as : List Ar) (P : R → List Ar → Prop) (h : c_sgn as P) : ctOf 4 (m_is_signs c_text) as P := by
  obtain ⟨d, least, rfl, hf, hP⟩ := h
  have sl := sizeLine_eq
  cases d with
  | str x =>
    have hx := hf.str
    have hx2 : x.cps.size ≤ 1000000 := hx
    walk_at "R"
    refine use_text hf ?_
    walk_at "R"
    show brK (!isTextX 94 x) _ _
    cases ht : isTextX 94 x with
    | false =>
      have e : isSigns least (.str x) = false := by
        show (isTextX 94 x && _) = _
        rw [ht]; rfl
      rw [e] at hP
      walk_at "R"
      exact hP
    | true =>
      walk_at "R"
      apply br_d <;> intro hd
      · have e : isSigns least (.str x) = false := by
          show (isTextX 94 x && (!decide ((x.length : Int) < least) && _)) = _
          rw [ht, decide_eq_true hd]; rfl
        rw [e] at hP
        walk_at "R"
        exact hP
      · have e : isSigns least (.str x) = (x.cps.toList.zip (x.cps.toList.drop 1)).all fun q => decide (q.1 < q.2) := by
          show (isTextX 94 x && (!decide ((x.length : Int) < least) && rising x.cps.toList)) = _
          rw [ht, decide_eq_false hd, rising_zip]; rfl
        rw [e, ← all_map] at hP
        have hb := blsOf_map (fun q : Nat × Nat => decide (q.1 < q.2)) (x.cps.toList.zip (x.cps.toList.drop 1))
        walk_at "R"
        have ez : zipD (signsD x) (signsD (cutS x (some 1) none)) = (x.cps.toList.zip (x.cps.toList.drop 1)).map fun q => .tuple [.str ⟨#[q.1]⟩, .str ⟨#[q.2]⟩] := by
          unfold signsD
          rw [show (some (1 : Int)) = some ((1 : Nat) : Int) from rfl, cutS_lo, zipD_map]
        change Lc _ _ _ _ _ (zipD (signsD x) (signsD (cutS x (some 1) none))) _ _
        rw [ez]
        refine lc_list (as := x.cps.toList.zip (x.cps.toList.drop 1)) (fun q => .tuple [.str ⟨#[q.1]⟩, .str ⟨#[q.2]⟩]) (fun q => .bool (decide (q.1 < q.2))) (fun q hc ds acc ha hk => ?_) ?_ ?_
        · walk_at "R"
          rw [← lt_one] at hk
          exact hk
        · have : x.cps.toList.length = x.cps.size := Array.length_toList
          rw [List.length_zip]; omega
        · walk_at "R"
          exact hP
  | none => (walk_at "R"; refine use_text hf ?_; walk_at "R"; exact hP)
  | bool b => (walk_at "R"; refine use_text hf ?_; walk_at "R"; exact hP)
  | int i => (walk_at "R"; refine use_text hf ?_; walk_at "R"; exact hP)
  | list ds => (walk_at "R"; refine use_text hf ?_; walk_at "R"; exact hP)
  | tuple ds => (walk_at "R"; refine use_text hf ?_; walk_at "R"; exact hP)
  | dict kvs => (walk_at "R"; refine use_text hf ?_; walk_at "R"; exact hP)
def c_name : Ct := fun as P => ∃ d : D, as = [.val d] ∧ Fit d ∧ P (.val (.bool (isName d))) [.val d]
theorem use_name {d : D} {P : R → List Ar → Prop} (h : Fit d) (q : P (.val (.bool (isName d))) [.val d]) : Cl c_name [.val d] P := ⟨d, rfl, h, q⟩
theorem w_name (as : List Ar) (P : R → List Ar → Prop) (h : c_name as P) : ctOf 2 m_is_name as P := by
  obtain ⟨d, rfl, hf, hP⟩ := h
  have sl := sizeLine_eq
  cases d with
  | str x =>
    have hx := hf.str
    have hx2 : x.cps.size ≤ 1000000 := hx
    have hb := blsOf_map inL x.cps.toList
    have e0 : isName (.str x) = (decide (1 ≤ (x.length : Int)) && (decide ((x.length : Int) ≤ 8) && x.cps.toList.all inL)) := rfl
    rw [e0] at hP
    walk_at "R"
    apply br_d <;> intro hd
    · rw [decide_eq_true hd] at hP
      walk_at "R"
      apply br_nd <;> intro hd
      · rw [decide_eq_false hd] at hP
        walk_at "R"
        exact hP
      · rw [decide_eq_true hd, ← all_map] at hP
        walk_at "R"
        refine lc_list (as := x.cps.toList) (fun c => .str ⟨#[c]⟩) (fun c => .bool (inL c)) (fun c hc ds acc ha hk => ?_) (by rw [Array.length_toList]; omega) ?_
        · walk_at "R"
          rw [Bool.false_xor, strIn_one]
          exact hk
        · walk_at "R"
          exact hP
    · rw [decide_eq_false hd] at hP
      walk_at "R"
      exact hP
  | none => walk_at "R"; exact hP
  | bool b => walk_at "R"; exact hP
  | int i => walk_at "R"; exact hP
  | list ds => walk_at "R"; exact hP
  | tuple ds => walk_at "R"; exact hP
  | dict kvs => walk_at "R"; exact hP
def c_formed (n : Nat) : Ct := fun as P => ∃ (d : D) (l : Nat), as = [.val d, .val (.int l)] ∧ l < n ∧ Fit d ∧ P (.val (.bool (isForm l d))) [.val d, .val (.int l)]
theorem use_formed {n l : Nat} {d : D} {P : R → List Ar → Prop} (hl : l < n) (h : Fit d) (q : P (.val (.bool (isForm l d))) [.val d, .val (.int l)]) : Cl (c_formed n) [.val d, .val (.int l)] P := ⟨d, l, rfl, hl, h, q⟩
theorem n_formed (as : List Ar) (Q : R → List Ar → Prop) : ¬ c_formed 0 as Q := by
  rintro ⟨d, l, rfl, h, _⟩
  omega
def fcs : List Nat := [115, 98, 110, 119, 114, 112]
def c_piece (n : Nat) : Ct := fun as P => ∃ (f : Nat) (d : D) (l : Nat), as = [.val (.str ⟨#[f]⟩), .val d, .val (.int l)] ∧ f ∈ fcs ∧ l < n ∧ Fit d ∧ P (.val (.bool (isPiece (isForm l) f d))) [.val (.str ⟨#[f]⟩), .val d, .val (.int l)]
theorem use_piece {n l f : Nat} {d : D} {P : R → List Ar → Prop} (hf : f ∈ fcs) (hl : l < n) (h : Fit d) (q : P (.val (.bool (isPiece (isForm l) f d))) [.val (.str ⟨#[f]⟩), .val d, .val (.int l)]) : Cl (c_piece n) [.val (.str ⟨#[f]⟩), .val d, .val (.int l)] P := ⟨f, d, l, rfl, hf, hl, h, q⟩
theorem w_piece (n : Nat) (as : List Ar) (P : R → List Ar → Prop) (h : c_piece n as P) : ctOf 4 (m_is_piece c_sgn c_name (c_formed n)) as P := by
  obtain ⟨f, d, l, rfl, hf, hl, hF, hP⟩ := h
  have sl := sizeLine_eq
  simp only [fcs, List.mem_cons, List.not_mem_nil, or_false] at hf
  rcases hf with rfl | rfl | rfl | rfl | rfl | rfl
  · walk_at "R"
    refine use_sgn hF ?_
    walk_at "R"
    exact hP
  · walk_at "R"
    refine use_sgn hF ?_
    walk_at "R"
    exact hP
  · walk_at "R"
    refine use_name hF ?_
    walk_at "R"
    exact hP
  · cases d with
    | str x =>
      walk_at "R"
      rw [Bool.false_xor]
      exact hP
    | none => walk_at "R"; exact hP
    | bool b => walk_at "R"; exact hP
    | int i => walk_at "R"; exact hP
    | list ds => walk_at "R"; exact hP
    | tuple ds => walk_at "R"; exact hP
    | dict kvs => walk_at "R"; exact hP
  · walk_at "R"
    refine use_formed hl hF ?_
    walk_at "R"
    exact hP
  · cases d with
    | tuple ds =>
      have hb := blsOf_map (isForm l) ds
      have hz := hF.len
      have e0 : isPiece (isForm l) 112 (.tuple ds) = (decide (2 ≤ (ds.length : Int)) && (decide ((ds.length : Int) ≤ 6) && ds.all (isForm l))) := rfl
      rw [e0] at hP
      walk_at "R"
      apply br_d <;> intro hd
      · have h1 := hd
        rw [decide_eq_true h1] at hP
        walk_at "R"
        apply br_nd <;> intro hd
        · have h2 := hd
          rw [decide_eq_false h2] at hP
          walk_at "R"
          exact hP
        · have h2 := hd
          rw [decide_eq_true h2, ← all_map] at hP
          walk_at "R"
          refine lc_id (as := ds) (fun d => .bool (isForm l d)) (fun d hm ds acc ha hk => ?_) (by omega) ?_
          · walk_at "R"
            refine use_formed hl (hF.tup d hm) ?_
            walk_at "R"
            exact hk
          · walk_at "R"
            exact hP
      · have h1 := hd
        rw [decide_eq_false h1] at hP
        walk_at "R"
        exact hP
    | str x => walk_at "R"; exact hP
    | none => walk_at "R"; exact hP
    | bool b => walk_at "R"; exact hP
    | int i => walk_at "R"; exact hP
    | list ds => walk_at "R"; exact hP
    | dict kvs => walk_at "R"; exact hP
theorem forms_ok {w fs : Str} (h : tLook FORMS w = some fs) : (∀ f ∈ fs.cps.toList, f ∈ fcs) ∧ fs.length ≤ 2 := by
  have : ∀ q ∈ FORMS, (∀ f ∈ q.2.cps.toList, f ∈ fcs) ∧ q.2.length ≤ 2 := by decide +kernel
  have mem : ∀ (t : Tab), tLook t w = some fs → ∃ q ∈ t, q.2 = fs := by
    intro t
    induction t with
    | nil => intro h; cases h
    | cons p t ih =>
      intro h
      unfold tLook at h
      split at h
      · cases h; exact ⟨p, List.mem_cons_self, rfl⟩
      · obtain ⟨q, h1, h2⟩ := ih h
        exact ⟨q, List.mem_cons_of_mem _ h1, h2⟩
  obtain ⟨q, h1, rfl⟩ := mem _ h
  exact this q h1
theorem w_formed (n : Nat) (as : List Ar) (P : R → List Ar → Prop) (h : c_formed (n + 1) as P) : ctOf 6 (m_is_formed (c_piece n)) as P := by
  obtain ⟨d, l, rfl, hl, hF, hP⟩ := h
  have sl := sizeLine_eq
  cases l with
  | zero => walk_at "R"; exact hP
  | succ l =>
    have hl0 : ¬ ((l + 1 : Nat) : Int) = 0 := by omega
    have hl1 : ((l + 1 : Nat) : Int) - 1 = (l : Int) := by omega
    cases d with
    | tuple ds =>
      have hz := hF.len
      cases ds with
      | nil => walk_at "R"; exact hP
      | cons w ps =>
        have hat := at_0 w ps
        cases w with
        | str w =>
          have hps : ∀ d ∈ ps, Fit d := fun d hd => hF.tup d (List.mem_cons_of_mem _ hd)
          walk_at "R"
          rw [star21]
          cases hk : tLook FORMS w with
          | none =>
            have hk' : tLook tab_FORMS w = none := hk
            have e : isForm (l + 1) (.tuple (.str w :: ps)) = false := by simp only [isForm, hk]
            rw [e] at hP
            walk_at "G"
            rw [hk']
            walk_at "R"
            exact hP
          | some fs =>
            have hk' : tLook tab_FORMS w = some fs := hk
            obtain ⟨f1, f2⟩ := forms_ok hk
            have e : isForm (l + 1) (.tuple (.str w :: ps)) = (decide (ps.length = fs.length) && (fs.cps.toList.zip ps).all fun q => isPiece (isForm l) q.1 q.2) := by simp only [isForm, hk]
            rw [e] at hP
            walk_at "G"
            rw [hk']
            walk_at "R"
            apply br_nd <;> intro hd
            · rw [decide_eq_false (show ¬ ps.length = fs.length by omega)] at hP
              walk_at "R"
              exact hP
            · rw [decide_eq_true (show ps.length = fs.length by omega), Bool.true_and, ← all_map] at hP
              have hb := blsOf_map (fun q : Nat × D => isPiece (isForm l) q.1 q.2) (fs.cps.toList.zip ps)
              walk_at "R"
              have ez : zipD (signsD fs) ps = (fs.cps.toList.zip ps).map fun q => .tuple [.str ⟨#[q.1]⟩, q.2] := by
                have := zipD_map (fun c => PyData.str ⟨#[c]⟩) (fun d : D => d) fs.cps.toList ps
                rw [List.map_id'] at this
                exact this
              change Lc _ _ _ _ _ (zipD (signsD fs) ps) _ _
              rw [ez]
              refine lc_list (as := fs.cps.toList.zip ps) (fun q => .tuple [.str ⟨#[q.1]⟩, q.2]) (fun q => .bool (isPiece (isForm l) q.1 q.2)) (fun q hm ds acc ha hk => ?_) ?_ ?_
              · have h1 := List.of_mem_zip (a := q.1) (b := q.2) hm
                walk_at "R"
                rw [hl1]
                refine use_piece (f1 _ h1.1) (by omega) (hps _ h1.2) ?_
                walk_at "R"
                exact hk
              · have h3 : fs.cps.toList.length = fs.length := Array.length_toList
                rw [List.length_zip, h3]; omega
              · walk_at "R"
                exact hP
        | none => walk_at "R"; exact hP
        | bool b => walk_at "R"; exact hP
        | int i => walk_at "R"; exact hP
        | list ds => walk_at "R"; exact hP
        | tuple ds => walk_at "R"; exact hP
        | dict kvs => walk_at "R"; exact hP
    | str x => walk_at "R"; exact hP
    | none => walk_at "R"; exact hP
    | bool b => walk_at "R"; exact hP
    | int i => walk_at "R"; exact hP
    | list ds => walk_at "R"; exact hP
    | dict kvs => walk_at "R"; exact hP
def c_reader : Ct := fun as P => ∃ d : D, as = [.val d] ∧ Fit d ∧ P (.val (.bool (isForm 8 d))) [.val d]
theorem use_reader {d : D} {P : R → List Ar → Prop} (h : Fit d) (q : P (.val (.bool (isForm 8 d))) [.val d]) : Cl c_reader [.val d] P := ⟨d, rfl, h, q⟩
theorem w_reader (as : List Ar) (P : R → List Ar → Prop) (h : c_reader as P) : ctOf 1 (m_is_reader (c_formed 9)) as P := by
  obtain ⟨d, rfl, hF, hP⟩ := h
  walk_at "R"
  refine use_formed (l := 8) (by omega) hF ?_
  walk_at "R"
  exact hP
def PenOk (b : Nat) (pen : List D) : Prop := ∃ (gone rest : Int) (cells : List Int), pen = [.list (cells.map .int), .int gone, .int rest] ∧ 0 ≤ gone ∧ gone + b ≤ 2 ^ 40 ∧ 0 ≤ rest ∧ cells.length ≤ 63
theorem PenOk.mono {a b : Nat} {pen : List D} (h : PenOk a pen) (q : b ≤ a) : PenOk b pen := by
  obtain ⟨g, r, c, e, h1, h2, h3⟩ := h
  exact ⟨g, r, c, e, h1, by omega, h3⟩
def c_draw : Ct := fun as P => ∃ pen many b, as = [.box (.L pen), .val (.int many)] ∧ PenOk (b + 1) pen ∧ 0 < many ∧ many < 1073741824 ∧ ∀ v pen', 0 ≤ v → v < many → PenOk b pen' → P (.val (.int v)) [.box (.L pen'), .val (.int many)]
theorem use_draw {pen : List D} {many : Int} {b : Nat} {P : R → List Ar → Prop} (hp : PenOk (b + 1) pen) (h1 : 0 < many) (h2 : many < 1073741824) (h : ∀ v pen', 0 ≤ v → v < many → PenOk b pen' → P (.val (.int v)) [.box (.L pen'), .val (.int many)]) : Cl c_draw [.box (.L pen), .val (.int many)] P := ⟨pen, many, b, rfl, hp, h1, h2, h⟩
theorem w_draw (as : List Ar) (P : R → List Ar → Prop) (h : c_draw as P) : ctOf 6 m__law_draw as P := by
  obtain ⟨pen, many, b, rfl, ⟨gone, rest, cells, rfl, h0, h1, hr, hc⟩, hm, hm2, hP⟩ := h
  have hb : gone < 2 ^ 40 := by omega
  walk_at "R"
  apply br_d <;> intro hd
  · walk_at "R"
    refine hP _ _ (Int.emod_nonneg _ (by omega)) (Int.emod_lt_of_pos _ hm) ⟨_, _, cells, rfl, h0, by omega, Int.ediv_nonneg hr (by omega), hc⟩
  · have hg : 0 ≤ gone ∧ gone ≤ 2 ^ 40 := by omega
    have hgg := mul_bd (a := 50021 * gone) (b := gone) (A := 2 ^ 60) (B := 2 ^ 40) (by omega) (by omega) (by omega) (by omega)
    have tail : ∀ c : Int, 0 ≤ c % 2147483563 + 50021 * gone * gone + 70009 * gone + 37 ∧ c % 2147483563 + 50021 * gone * gone + 70009 * gone + 37 ≤ 2 ^ 200 := fun c => by
      have := Int.emod_nonneg c (show (2147483563 : Int) ≠ 0 by decide)
      have := Int.emod_lt_of_pos c (show (0 : Int) < 2147483563 by decide)
      omega
    have tail2 : ∀ c : Int, 0 ≤ c % 2147483647 * (5 * gone + 2) + 80039 ∧ c % 2147483647 * (5 * gone + 2) + 80039 ≤ 2 ^ 200 := fun c => by
      have := Int.emod_nonneg c (show (2147483647 : Int) ≠ 0 by decide)
      have := Int.emod_lt_of_pos c (show (0 : Int) < 2147483647 by decide)
      have h1 := mul_bd (a := c % 2147483647) (b := 5 * gone + 2) (A := 2 ^ 31) (B := 2 ^ 43) (by omega) (by omega) (by omega) (by omega)
      omega
    have fin : ∀ x g r : Int, 0 ≤ g → g + b ≤ 2 ^ 40 → 0 ≤ r → P (.val (.int (x % many))) [.box (.L [.list (cells.map .int), .int g, .int r]), .val (.int many)] := fun x g r h1 h2 h3 =>
      hP _ _ (Int.emod_nonneg _ (by omega)) (Int.emod_lt_of_pos _ hm) ⟨_, _, cells, rfl, h1, h2, h3, hc⟩
    walk_at "R"
    cases hcs : cells with
    | nil =>
      subst hcs
      have t1 := tail (80021 * gone + 57)
      have t2 := tail2 (((80021 * gone + 57) % 2147483563 + 50021 * gone * gone + 70009 * gone + 37) ^ (3 : Int).toNat)
      walk_at "R"
      apply br_d <;> intro hd
      · exact absurd (show gone < 0 from hd) (by omega)
      · walk_at "R"
        exact fin _ _ _ (by omega) (by omega) hr
    | cons c0 cs =>
      have hl : 0 < (cells.map PyData.int).length := by rw [hcs]; simp
      obtain ⟨c, hat⟩ := at_ints cells (i := gone % ((cells.map PyData.int).length : Int)) (Int.emod_nonneg _ (by omega)) (by rw [List.length_map] at hl ⊢; exact Int.emod_lt_of_pos _ (by omega))
      have t1 := tail c
      have t2 := tail2 ((c % 2147483563 + 50021 * gone * gone + 70009 * gone + 37) ^ (3 : Int).toNat)
      rw [← hcs]
      have hne : (!(cells.map PyData.int).isEmpty) = true := by rw [hcs]; rfl
      apply brT hne
      walk_at "R"
      apply br_d <;> intro hd
      · walk_at "R"
        apply br_d <;> intro hd
        · walk_at "R"
          exact fin _ _ _ (by omega) (by omega) (Int.ediv_nonneg (by split <;> omega) (by omega))
        · walk_at "R"
          exact fin _ _ _ (by omega) (by omega) hr
      · walk_at "R"
        exact fin _ _ _ (by omega) (by omega) hr
theorem pen_start {ns : List Int} : PenOk 1000000000000 [.list ((cutI ns none (some 63)).map .int), .int 0, .int 0] := by
  refine ⟨0, 0, cutI ns none (some 63), rfl, by omega, by decide, by omega, ?_⟩
  unfold cutI
  rw [HT.sIx_none, List.length_take]
  have : HT.sIx ns.length ns.length (some 63) ≤ 63 := by
    rw [show (some (63 : Int)) = some ((63 : Nat) : Int) from rfl, HT.sIx_nat]; omega
  omega
def c_all : Ct := fun as P => as = [] ∧ P (.val (.str SIGNS)) []
theorem use_all {P : R → List Ar → Prop} (h : P (.val (.str SIGNS)) []) : Cl c_all [] P := ⟨rfl, h⟩
theorem w_all (as : List Ar) (P : R → List Ar → Prop) (h : c_all as P) : ctOf 1 m__law_all as P := by
  obtain ⟨rfl, hP⟩ := h
  have sl := sizeLine_eq
  have e : Str.ofString "\n !\"#$&'()*+,-./0123456789:;<=>?@ABCDEFGHIJKLMNOPQRSTUVWXYZ" ++ Str.ofString "[\\]^_`abcdefghijklmnopqrstuvwxyz{|}~" = SIGNS := by decide +kernel
  have q1 : (Str.ofString "\n !\"#$&'()*+,-./0123456789:;<=>?@ABCDEFGHIJKLMNOPQRSTUVWXYZ").length ≤ 100 := by decide +kernel
  have q2 : (Str.ofString "[\\]^_`abcdefghijklmnopqrstuvwxyz{|}~").length ≤ 100 := by decide +kernel
  walk_at "R"
  rw [e]
  exact hP
theorem sg1_of {x : Str} (h1 : x.cps.toList.isSublist SIGNS.cps.toList = true) (h2 : x.length ≤ 94) (h3 : 1 ≤ x.length) : Sg1 x := ⟨⟨List.isSublist_iff_sublist.mp h1, h2⟩, h3⟩
def c_signs : Ct := fun as P => ∃ pen b, as = [.box (.L pen)] ∧ PenOk (b + 100) pen ∧ ∀ x pen', Sg1 x → PenOk b pen' → P (.val (.str x)) [.box (.L pen')]
theorem use_signs {pen : List D} {b : Nat} {P : R → List Ar → Prop} (hp : PenOk (b + 100) pen) (h : ∀ x pen', Sg1 x → PenOk b pen' → P (.val (.str x)) [.box (.L pen')]) : Cl c_signs [.box (.L pen)] P := ⟨pen, b, rfl, hp, h⟩
theorem w_signs (as : List Ar) (P : R → List Ar → Prop) (h : c_signs as P) : ctOf 6 (m__law_signs c_all c_draw) as P := by
  obtain ⟨pen, b, rfl, hp, hP⟩ := h
  have sl := sizeLine_eq
  have el := SIGNS_len
  walk_at "R"
  refine use_all ?_
  walk_at "R"
  refine use_draw (b := b + 99) hp (by omega) (by omega) fun v1 pen1 a1 a2 hp1 => ?_
  walk_at "R"
  apply br_d <;> intro hd
  · walk_at "R"
    refine use_draw (b := b + 98) hp1 (by omega) (by omega) fun v2 pen2 b1 b2 hp2 => ?_
    obtain ⟨_, hat, x, rfl, hx⟩ := at_all (ds := [PyData.str "a", PyData.str "ab", PyData.str "b", PyData.str "abc", PyData.str "c", PyData.str " ", PyData.str "\n", PyData.str "\n a"]) (v := v2) (fun d => ∃ x, d = .str x ∧ Sg1 x) b1 b2 (by
      intro d hd
      simp only [List.mem_cons, List.not_mem_nil, or_false] at hd
      rcases hd with rfl | rfl | rfl | rfl | rfl | rfl | rfl | rfl <;> exact ⟨_, rfl, sg1_of (by decide +kernel) (by decide) (by decide)⟩)
    walk_at "R"
    exact hP _ _ hx (hp2.mono (by omega))
  · walk_at "R"
    apply br_d <;> intro hd
    · walk_at "R"
      refine use_draw (b := b + 98) hp1 (by omega) (by omega) fun v2 pen2 b1 b2 hp2 => ?_
      walk_at "R"
      refine use_draw (b := b + 97) hp2 (by omega) (by omega) fun v3 pen3 c1 c2 hp3 => ?_
      walk_at "R"
      obtain ⟨i, rfl⟩ := Int.eq_ofNat_of_zero_le b1
      obtain ⟨j, rfl⟩ := Int.eq_ofNat_of_zero_le c1
      have e2 : (i : Int) + 1 + (j : Int) = ((i + 1 + j : Nat) : Int) := by omega
      rw [e2]
      have e3 := cutS_lohi SIGNS i (i + 1 + j)
      have e4 : (cutS SIGNS (some (i : Int)) (some ((i + 1 + j : Nat) : Int))).length = min (j + 1) (95 - i) := by
        rw [slen, e3, List.length_take, List.length_drop, ← slen, el]; omega
      refine hP _ _ ⟨⟨?_, by rw [e4]; omega⟩, by rw [e4]; omega⟩ (hp3.mono (by omega))
      rw [e3]
      exact (List.take_sublist _ _).trans (List.drop_sublist _ _)
    · walk_at "R"
      refine lcc_by (fun ds acc r => ∃ (pen : List D) (l rest : List Nat), r = [some (.box true (.L pen)), some (.val (.str SIGNS)), some (.val (.int v1)), none, none, none] ∧ ds = rest.map (fun c => .str ⟨#[c]⟩) ∧ acc = l.map (fun c => .str ⟨#[c]⟩) ∧ (l ++ rest).Sublist SIGNS.cps.toList ∧ PenOk (b + ds.length) pen) ?_ ?_ ?_
      · refine ⟨pen1, [], SIGNS.cps.toList, rfl, rfl, rfl, List.Sublist.refl _, hp1.mono ?_⟩
        change b + (signsD SIGNS).length ≤ _
        rw [signsD, List.length_map, ← slen, el]; omega
      · rintro d ds acc r ⟨pen2, l, rest, rfl, h1, rfl, h3, h4⟩ ih
        cases rest with
        | nil => cases h1
        | cons c rest =>
        simp only [List.map_cons, List.cons.injEq] at h1
        obtain ⟨rfl, rfl⟩ := h1
        simp only [List.length_cons] at h4
        have hl : (l.map fun c => PyData.str ⟨#[c]⟩).length < sizeLine := by
          have := h3.length_le
          rw [List.length_append, ← slen, el] at this
          rw [List.length_map]; omega
        walk_at "R"
        refine use_draw (b := b + (rest.map fun c => PyData.str ⟨#[c]⟩).length) h4 (by omega) (by omega) fun v pen3 c1 c2 hp3 => ?_
        walk_at "R"
        apply br_d <;> intro hd
        · walk_at "R"
          exact ih _ _ ⟨pen3, l ++ [c], rest, rfl, rfl, by rw [List.map_append]; rfl, by rw [List.append_assoc]; exact h3, hp3⟩
        · walk_at "R"
          exact ih _ _ ⟨pen3, l, rest, rfl, rfl, rfl, (List.Sublist.append_left (List.sublist_cons_self c rest) l).trans h3, hp3⟩
      · rintro acc r ⟨pen2, l, rest, rfl, h1, rfl, h3, h4⟩
        have e0 : rest = [] := by simpa using h1.symm
        subst e0
        rw [List.append_nil] at h3
        have hll : l.length ≤ 95 := by
          have := h3.length_le
          rwa [← slen, el] at this
        have hj := join_ones_fit (l := l) (by omega)
        have hs := strsOf_ones l
        have ej := joinOnes l
        have ejl : (Txt.join (Str.ofString "") (l.map fun c => (⟨#[c]⟩ : Str))).length ≤ 95 := by rw [slen, ej]; exact hll
        walk_at "R"
        by_cases hz : Txt.join (Str.ofString "") (l.map fun c => (⟨#[c]⟩ : Str)) = Str.ofString ""
        · rw [if_pos (decide_eq_true hz)]
          walk_at "R"
          exact hP _ _ (sg1_of (by decide +kernel) (by decide) (by decide)) (h4.mono (by omega))
        · rw [if_neg (by rw [decide_eq_true_eq]; exact hz)]
          walk_at "R"
          have e5 := cutS_hi (Txt.join (Str.ofString "") (l.map fun c => (⟨#[c]⟩ : Str))) 94
          rw [ej] at e5
          have hpos : 0 < l.length := by
            cases l with
            | nil => exact absurd rfl hz
            | cons a l => simp
          refine hP _ _ ⟨⟨?_, ?_⟩, ?_⟩ (h4.mono (by omega))
          · rw [show (some (94 : Int)) = some ((94 : Nat) : Int) from rfl, e5]
            exact (List.take_sublist _ _).trans h3
          · rw [show (some (94 : Int)) = some ((94 : Nat) : Int) from rfl, slen, e5, List.length_take]; omega
          · rw [show (some (94 : Int)) = some ((94 : Nat) : Int) from rfl, slen, e5, List.length_take]; omega
theorem at_inj {α : Type} {ds : List α} (hn : ds.Nodup) {a b : Int} {d : α} (a0 : 0 ≤ a) (b0 : 0 ≤ b) (h1 : atI ds a = some d) (h2 : atI ds b = some d) : a = b := by
  obtain ⟨x, rfl⟩ := Int.eq_ofNat_of_zero_le a0
  obtain ⟨y, rfl⟩ := Int.eq_ofNat_of_zero_le b0
  have e : ∀ z : Nat, atI ds (z : Int) = some d → ds[z]? = some d := fun z h => by
    by_cases q : z < ds.length
    · have := at_nat (List.getElem?_eq_getElem q)
      rw [this] at h
      rw [List.getElem?_eq_getElem q]; exact h
    · exfalso
      unfold atI ixN at h
      rw [if_pos (by omega), if_neg (by omega)] at h; cases h
  have e1 := e x h1
  have e2 := e y h2
  obtain ⟨q1, r1⟩ := List.getElem?_eq_some_iff.mp e1
  obtain ⟨q2, r2⟩ := List.getElem?_eq_some_iff.mp e2
  have := (List.getElem_inj hn).mp (r1.trans r2.symm)
  omega
structure Ks (key : Str → Int → Prop) (names : List Str) : Prop where
  nd : names.Nodup
  ky : ∀ y ∈ names, ∃ j : Int, 0 ≤ j ∧ j < names.length ∧ key y j
theorem Ks.nil (key : Str → Int → Prop) : Ks key [] := ⟨List.nodup_nil, fun y h => (nomatch h)⟩
theorem Ks.add {key : Str → Int → Prop} {names : List Str} {w : Str} (h : Ks key names) (hw : key w names.length) (hne : ∀ j : Int, 0 ≤ j → j < names.length → key w j → False) : Ks key (names ++ [w]) := by
  refine ⟨?_, fun y hy => ?_⟩
  · rw [List.nodup_append]
    refine ⟨h.nd, by simp, fun a ha b hb => ?_⟩
    rw [List.mem_singleton] at hb
    intro e
    subst e; subst hb
    obtain ⟨j, j1, j2, j3⟩ := h.ky _ ha
    exact hne j j1 j2 j3
  · rw [List.length_append]
    rcases List.mem_append.mp hy with hy | hy
    · obtain ⟨j, j1, j2, j3⟩ := h.ky y hy
      exact ⟨j, j1, by simp; omega, j3⟩
    · rw [List.mem_singleton] at hy
      subst hy
      exact ⟨_, by omega, by simp; omega, hw⟩
theorem flat_strsD (y : Str) (l : List Str) : flatIn (.str y) (l.map PyData.str) = decide (y ∈ l) := by
  unfold flatIn
  rw [List.any_map]
  induction l with
  | nil => simp
  | cons a l ih =>
    rw [List.any_cons, ih]
    have : ((fun z => PyData.eqv z (.str y)) ∘ PyData.str) a = decide (a = y) := by
      simp only [Function.comp, PyData.eqv]
      by_cases e : a = y
      · subst e; simp
      · simp [e]
    rw [this]
    by_cases e : a = y
    · subst e; simp
    · have e' : ¬ y = a := fun q => e q.symm
      simp [e, e', List.mem_cons]
theorem put1_inj {x : Str} {s c c' : Nat} (h : cutS x none (some (s : Int)) ++ (⟨#[c]⟩ : Str) ++ cutS x (some (s : Int)) none = cutS x none (some (s : Int)) ++ (⟨#[c']⟩ : Str) ++ cutS x (some (s : Int)) none) : c = c' := by
  have h2 := congrArg (fun z : Str => z.cps.toList) h
  simp only [app_list] at h2
  have h3 := List.append_cancel_right h2
  have h4 := List.append_cancel_left h3
  simpa using h4
theorem nodup_set' {α : Type} : ∀ {l : List α} (i : Nat) {w : α}, l.Nodup → w ∉ l → (l.set i w).Nodup
  | [], i, w, h, _ => by simp
  | a :: l, 0, w, h, hw => by
    rw [List.set_cons_zero, List.nodup_cons]
    rw [List.mem_cons, not_or] at hw
    exact ⟨hw.2, (List.nodup_cons.mp h).2⟩
  | a :: l, i + 1, w, h, hw => by
    rw [List.set_cons_succ, List.nodup_cons]
    rw [List.mem_cons, not_or] at hw
    obtain ⟨h1, h2⟩ := List.nodup_cons.mp h
    refine ⟨fun q => ?_, nodup_set' i h2 hw.2⟩
    rcases List.mem_or_eq_of_mem_set q with q | q
    · exact h1 q
    · exact hw.1 q.symm
theorem stride1 {lp v i j : Int} (h : lp = 1 ∨ lp = 3 ∨ lp = 5 ∨ lp = 7 ∨ lp = 9 ∨ lp = 11) (j1 : 0 ≤ j) (j2 : j < i) (i2 : i < 8) (z : (v + lp * i) % 26 = (v + lp * j) % 26) : False := by
  rcases h with rfl | rfl | rfl | rfl | rfl | rfl <;> omega
theorem range_cons (lo : Int) (n : Nat) : rangeD lo (n + 1) = .int lo :: rangeD (lo + 1) n := by
  unfold rangeD
  rw [List.range_succ_eq_map, List.map_cons, List.map_map]
  simp only [List.cons.injEq, List.map_inj_left, Function.comp]
  refine ⟨by simp, fun a _ => ?_⟩
  congr 1
  omega
def c_names : Ct := fun as P => ∃ pen many b, as = [.box (.L pen), .val (.int many)] ∧ 1 ≤ many ∧ many ≤ 8 ∧ PenOk (b + 40) pen ∧ ∀ (names : List Str) pen', (names.length : Int) = many → names.Nodup → (∀ x ∈ names, Nm x) → PenOk b pen' → P (.own (.L (names.map PyData.str))) [.box (.L pen'), .val (.int many)]
theorem use_names {pen : List D} {many : Int} {b : Nat} {P : R → List Ar → Prop} (h1 : 1 ≤ many) (h2 : many ≤ 8) (hp : PenOk (b + 40) pen) (h : ∀ (names : List Str) pen', (names.length : Int) = many → names.Nodup → (∀ x ∈ names, Nm x) → PenOk b pen' → P (.own (.L (names.map PyData.str))) [.box (.L pen'), .val (.int many)]) : Cl c_names [.box (.L pen), .val (.int many)] P := ⟨pen, many, b, rfl, h1, h2, hp, h⟩
theorem w_names (as : List Ar) (P : R → List Ar → Prop) (h : c_names as P) : ctOf 11 (m__law_names c_draw) as P := by
  obtain ⟨pen, many, b, rfl, hm1, hm2, hp, hP⟩ := h
  have sl := sizeLine_eq
  walk_at "R"
  refine use_draw (b := b + 39) hp (by omega) (by omega) fun v1 pen1 a1 a2 hp1 => ?_
  walk_at "R"
  refine use_draw (b := b + 38) hp1 (by omega) (by omega) fun v2 pen2 b1 b2 hp2 => ?_
  obtain ⟨_, hat, sz, rfl, s1, s2⟩ := at_all (ds := [PyData.int 0, PyData.int 7, PyData.int v1]) (v := v2) (fun d => ∃ s, d = .int s ∧ 0 ≤ s ∧ s ≤ 7) b1 b2 (by
    intro d hd
    simp only [List.mem_cons, List.not_mem_nil, or_false] at hd
    rcases hd with rfl | rfl | rfl <;> exact ⟨_, rfl, by omega, by omega⟩)
  walk_at "R"
  refine lcc_by (fun ds acc r => ∃ (pen : List D) (l : List Nat), r = [some (.box true (.L pen)), some (.val (.int many)), some (.val (.str (Str.ofString "abcdefghijklmnopqrstuvwxyz"))), none, none, none, none, none, none, none, none] ∧ acc = l.map (fun c => .str ⟨#[c]⟩) ∧ l.all inL = true ∧ l.length + ds.length ≤ 7 ∧ PenOk (b + 31 + ds.length) pen) ?_ ?_ ?_
  · refine ⟨pen2, [], rfl, rfl, rfl, ?_, hp2.mono ?_⟩
    · rw [range_len]; simp only [List.length_nil]; omega
    · rw [range_len]; omega
  · rintro d ds acc r ⟨pen3, l, rfl, rfl, h1, h2, h3⟩ ih
    simp only [List.length_cons] at h2 h3
    have hl : (l.map fun c => PyData.str ⟨#[c]⟩).length < sizeLine := by rw [List.length_map]; omega
    walk_at "R"
    refine use_draw (b := b + 31 + ds.length) h3 (by omega) (by omega) fun v pen4 c1 c2 hp4 => ?_
    obtain ⟨c, hc, hc2⟩ := letter_at c1 c2
    walk_at "R"
    refine ih _ _ ⟨pen4, l ++ [c], rfl, by rw [List.map_append]; rfl, ?_, by simp; omega, hp4⟩
    rw [List.all_append, h1]; simp [hc2]
  · rintro acc r ⟨pen3, l, rfl, rfl, h1, h2, h3⟩
    simp only [List.length_nil] at h2 h3
    have hj := join_ones_fit (l := l) (by omega)
    have hs := strsOf_ones l
    have ej := joinOnes l
    have ejl : (Txt.join (Str.ofString "") (l.map fun c => (⟨#[c]⟩ : Str))).length = l.length := by rw [slen, ej]
    have ejx : (Txt.join (Str.ofString "") (l.map fun c => (⟨#[c]⟩ : Str))).cps.toList.all inL = true := by rw [ej]; exact h1
    walk_at "G"
    refine on_i hs ?_
    generalize hx : Txt.join (Str.ofString "") (l.map fun c => (⟨#[c]⟩ : Str)) = x at ej ejl ejx
    apply Rq.mk hj
    walk_at "R"
    refine use_draw (b := b + 30) h3 (by omega) (by omega) fun v3 pen4 c1 c2 hp4 => ?_
    walk_at "R"
    refine use_draw (b := b + 29) hp4 (by omega) (by omega) fun v4 pen5 d1 d2 hp5 => ?_
    walk_at "R"
    refine use_draw (b := b + 28) hp5 (by omega) (by omega) fun v5 pen6 e1 e2 hp6 => ?_
    obtain ⟨_, hat2, lp, rfl, lp1, lp2, lp3⟩ := at_all (ds := [PyData.int 1, PyData.int 3, PyData.int 5, PyData.int 7, PyData.int 9, PyData.int 11]) (v := v5) (fun d => ∃ s, d = .int s ∧ 0 ≤ s ∧ s ≤ 11 ∧ (s = 1 ∨ s = 3 ∨ s = 5 ∨ s = 7 ∨ s = 9 ∨ s = 11)) e1 e2 (by
      intro d hd
      simp only [List.mem_cons, List.not_mem_nil, or_false] at hd
      rcases hd with rfl | rfl | rfl | rfl | rfl | rfl <;> exact ⟨_, rfl, by omega, by omega, by omega⟩)
    obtain ⟨sp, rfl⟩ := Int.eq_ofNat_of_zero_le c1
    have q1 := cutS_len x none (some (sp : Int))
    have q2 := cutS_len x (some (sp : Int)) none
    walk_at "R"
    refine lcc_by (fun ds acc r => ∃ names : List Str, r = [some (.box true (.L pen6)), some (.val (.int many)), some (.val (.str (Str.ofString "abcdefghijklmnopqrstuvwxyz"))), some (.val (.str x)), none, some (.val (.int sp)), some (.val (.int v4)), some (.val (.int lp)), none, none, none] ∧ acc = names.map PyData.str ∧ (∀ y ∈ names, Nm y) ∧ ((names.length + ds.length : Nat) : Int) = many ∧ ds = rangeD names.length ds.length ∧ Ks (fun y j => ∃ c, atI (Str.ofString "abcdefghijklmnopqrstuvwxyz").cps.toList ((v4 + lp * j) % 26) = some c ∧ y = cutS x none (some (sp : Int)) ++ (⟨#[c]⟩ : Str) ++ cutS x (some (sp : Int)) none) names) ?_ ?_ ?_
    · refine ⟨[], rfl, rfl, by simp, ?_, ?_, Ks.nil _⟩
      · rw [range_len]; simp only [List.length_nil]; omega
      · rw [range_len]; rfl
    · rintro d ds acc r ⟨names, rfl, rfl, g1, g2, g3, gk⟩ ih
      simp only [List.length_cons] at g2 g3
      rw [range_cons, List.cons.injEq] at g3
      obtain ⟨rfl, g3⟩ := g3
      have i1 : (0 : Int) ≤ names.length := by omega
      have i2 : (names.length : Int) < 8 := by omega
      generalize hi : (names.length : Int) = i at *
      have hl : (names.map PyData.str).length < sizeLine := by rw [List.length_map]; omega
      have hmb := mul_bd (a := lp) (b := i) (A := 11) (B := 100) (by omega) (by omega) (by omega) (by omega)
      obtain ⟨c, hc, hc2⟩ := letter_at (v := (v4 + lp * i) % 26) (Int.emod_nonneg _ (by decide)) (Int.emod_lt_of_pos _ (by decide))
      have one : (⟨#[c]⟩ : Str).length = 1 := rfl
      walk_at "R"
      exact ih _ _ ⟨names ++ [_], rfl, by rw [List.map_append]; rfl, fun y hy => by
        rcases List.mem_append.mp hy with hy | hy
        · exact g1 y hy
        · rw [List.mem_singleton.mp hy]
          exact nm_put ejx (by omega) hc2 (by omega), by simp; omega, by rw [List.length_append, List.length_singleton, Int.natCast_add, hi]; exact g3, gk.add (by rw [hi]; exact ⟨c, hc, rfl⟩) (fun j j1 j2 j3 => by
        rw [hi] at j2
        obtain ⟨c', k1, k2⟩ := j3
        have := put1_inj k2
        subst this
        exact stride1 lp3 j1 j2 i2 (at_inj (by decide +kernel) (Int.emod_nonneg _ (by decide)) (Int.emod_nonneg _ (by decide)) hc k1))⟩
    · rintro acc r ⟨names, rfl, rfl, g1, g2, g3, gk⟩
      walk_at "R"
      refine use_draw (b := b + 27) hp6 (by omega) (by omega) fun v6 pen7 f1 f2 hp7 => ?_
      walk_at "R"
      apply br_d <;> intro hd
      · walk_at "R"
        refine lp_by (fun ds r => ∃ (pen : List D) (names : List Str) (s4 s10 : Option Ce), r = [some (.box true (.L pen)), some (.val (.int many)), some (.val (.str (Str.ofString "abcdefghijklmnopqrstuvwxyz"))), some (.val (.str x)), s4, some (.val (.int sp)), some (.val (.int v4)), some (.val (.int lp)), some (.box false (.L (names.map PyData.str))), some (.box false (.L [.str (Str.ofString "name"), .str (Str.ofString "row"), .str (Str.ofString "many"), .str (Str.ofString "not"), .str (Str.ofString "again"), .str (Str.ofString "hold"), .str (Str.ofString "text"), .str (Str.ofString "drop"), .str (Str.ofString "count"), .str (Str.ofString "start")])), s10] ∧ (∀ y ∈ names, Nm y) ∧ (names.length : Int) = many ∧ (∀ d ∈ ds, ∃ i : Int, d = .int i ∧ 0 ≤ i ∧ i < many) ∧ PenOk (b + ds.length) pen ∧ names.Nodup) ?_ ?_ ?_
        · refine ⟨pen7, names, _, _, rfl, g1, by simpa using g2, fun d hd => ?_, hp7.mono ?_, gk.nd⟩
          · obtain ⟨i, e, k1, k2⟩ := range_ints d hd
            exact ⟨i, e, by omega, by omega⟩
          · rw [range_len]; omega
        · rintro d ds r ⟨pen8, names, s4, s10, rfl, k1, k2, k3, k4, k5⟩ ih
          obtain ⟨i, rfl, i1, i2⟩ := k3 d List.mem_cons_self
          have k3' := fun d' hd => k3 d' (List.mem_cons_of_mem _ hd)
          simp only [List.length_cons] at k4
          walk_at "R"
          refine use_draw (b := b + ds.length) k4 (by omega) (by omega) fun v7 pen9 j1 j2 hp9 => ?_
          obtain ⟨_, hat3, w, rfl, hw⟩ := at_all (ds := [PyData.str (Str.ofString "name"), PyData.str (Str.ofString "row"), PyData.str (Str.ofString "many"), PyData.str (Str.ofString "not"), PyData.str (Str.ofString "again"), PyData.str (Str.ofString "hold"), PyData.str (Str.ofString "text"), PyData.str (Str.ofString "drop"), PyData.str (Str.ofString "count"), PyData.str (Str.ofString "start")]) (v := v7) (fun d => ∃ s, d = .str s ∧ Nm s) j1 j2 (by
            intro d hd
            simp only [List.mem_cons, List.not_mem_nil, or_false] at hd
            rcases hd with rfl | rfl | rfl | rfl | rfl | rfl | rfl | rfl | rfl | rfl <;> exact ⟨_, rfl, nm_of (by decide +kernel) (by decide) (by decide)⟩)
          have hix : ixN (names.map PyData.str).length i = some i.toNat := ix_nat i1 (by rw [List.length_map]; omega)
          walk_at "R"
          apply rqB.mk
          · rw [flatD_strs]; rfl
          rw [flat_strsD]
          walk_at "R"
          apply br_nd <;> intro hd
          · walk_at "R"
            apply strictL_mk
            walk_at "R"
            refine ih _ ⟨pen9, names.set i.toNat w, _, _, by rw [List.map_set], fun y hy => ?_, by rw [List.length_set]; exact k2, k3', hp9, nodup_set' _ k5 (by simpa using hd)⟩
            rcases List.mem_or_eq_of_mem_set hy with hy | rfl
            · exact k1 y hy
            · exact hw
          · walk_at "R"
            exact ih _ ⟨pen9, names, _, _, rfl, k1, k2, k3', hp9, k5⟩
        · rintro r ⟨pen8, names, s4, s10, rfl, k1, k2, k3, k4, k5⟩
          walk_at "R"
          exact hP names _ k2 k5 k1 (k4.mono (by omega))
      · walk_at "R"
        exact hP names _ (by simpa using g2) gk.nd g1 (hp7.mono (by omega))
mutual
def anms : Rdr → List Str
  | .l1 .name x => [x]
  | .l1 .again x => [x]
  | .ps _ rs => anmss rs
  | .un _ r => anms r
  | .bi .make _ r => anms r
  | .bi .hold x r => x :: anms r
  | .bi .tag x r => x :: anms r
  | _ => []
def anmss : List Rdr → List Str
  | [] => []
  | r :: rs => anms r ++ anmss rs
end
def Wn (names : List Str) (r : Rdr) : Prop := r.wf ∧ ∀ y ∈ anms r, y ∈ names
theorem anmss_sub {names : List Str} : ∀ {rs : List Rdr}, (∀ r ∈ rs, Wn names r) → ∀ y ∈ anmss rs, y ∈ names
  | [], _, y, h => by simp [anmss] at h
  | r :: rs, k, y, h => by
    rw [anmss, List.mem_append] at h
    rcases h with h | h
    · exact (k r List.mem_cons_self).2 y h
    · exact anmss_sub (fun q hq => k q (List.mem_cons_of_mem _ hq)) y h
def c_leaf : Ct := fun as P => ∃ pen names b, as = [.box (.L pen), .val (.list (names.map PyData.str))] ∧ names ≠ [] ∧ names.length ≤ 8 ∧ (∀ x ∈ names, Nm x) ∧ PenOk (b + 210) pen ∧ ∀ (r : Rdr) pen', Wn names r → r.dep ≤ 1 → r.cnt ≤ 1 → PenOk b pen' → P (.val r.toD) [.box (.L pen'), .val (.list (names.map PyData.str))]
theorem use_leaf {pen : List D} {names : List Str} {b : Nat} {P : R → List Ar → Prop} (h1 : names ≠ []) (h2 : names.length ≤ 8) (h3 : ∀ x ∈ names, Nm x) (hp : PenOk (b + 210) pen) (h : ∀ (r : Rdr) pen', Wn names r → r.dep ≤ 1 → r.cnt ≤ 1 → PenOk b pen' → P (.val r.toD) [.box (.L pen'), .val (.list (names.map PyData.str))]) : Cl c_leaf [.box (.L pen), .val (.list (names.map PyData.str))] P := ⟨pen, names, b, rfl, h1, h2, h3, hp, h⟩
theorem w_leaf (as : List Ar) (P : R → List Ar → Prop) (h : c_leaf as P) : ctOf 5 (m__law_leaf c_draw c_signs) as P := by
  obtain ⟨pen, names, b, rfl, n1, n2, n3, hp, hP⟩ := h
  have sl := sizeLine_eq
  have n0 : 0 < names.length := List.length_pos_iff.mpr n1
  walk_at "R"
  refine use_draw (b := b + 209) hp (by omega) (by omega) fun v1 pen1 a1 a2 hp1 => ?_
  walk_at "R"
  refine use_draw (b := b + 208) hp1 (by rw [List.length_map]; omega) (by rw [List.length_map]; omega) fun v2 pen2 b1 b2 hp2 => ?_
  obtain ⟨_, hn, nm, rfl, tn, tm⟩ := at_all (ds := names.map PyData.str) (v := v2) (fun d => ∃ s, d = .str s ∧ Nm s ∧ s ∈ names) b1 b2 (by
    intro d hd
    simp only [List.mem_map] at hd
    obtain ⟨s, hs, rfl⟩ := hd
    exact ⟨s, rfl, n3 s hs, hs⟩)
  walk_at "R"
  refine use_signs (b := b + 108) hp2 fun x3 pen3 t3 hp3 => ?_
  walk_at "R"
  refine use_signs (b := b + 8) hp3 fun x4 pen4 t4 hp4 => ?_
  have x4l := t4.1.2
  walk_at "R"
  have s0 : Sg0 (cutS x4 none (some 94)) := by
    have e := cutS_hi x4 94
    have e2 : cutS x4 none (some 94) = cutS x4 none (some ((94 : Nat) : Int)) := rfl
    refine ⟨?_, ?_⟩
    · rw [e2, e]; exact (List.take_sublist _ _).trans t4.1.1
    · rw [e2, slen, e, List.length_take]; omega
  obtain ⟨_, hr, r, rfl, g1, g2, g3⟩ := at_all (ds := [(Rdr.l1 .sign x3).toD, (Rdr.l1 .but (cutS x4 none (some 94))).toD, (Rdr.l1 .name nm).toD, (Rdr.l0 .nothing).toD, (Rdr.l0 .never).toD, (Rdr.l1 .again nm).toD, (Rdr.l1 .sign "ab").toD, (Rdr.l1 .but "").toD]) (v := v1) (fun d => ∃ r : Rdr, d = r.toD ∧ Wn names r ∧ r.dep ≤ 1 ∧ r.cnt ≤ 1) a1 a2 (by
    intro d hd
    simp only [List.mem_cons, List.not_mem_nil, or_false] at hd
    rcases hd with rfl | rfl | rfl | rfl | rfl | rfl | rfl | rfl
    · exact ⟨_, rfl, ⟨t3, (fun y hy => (nomatch hy))⟩, Nat.le_refl _, Nat.le_refl _⟩
    · exact ⟨_, rfl, ⟨s0, (fun y hy => (nomatch hy))⟩, Nat.le_refl _, Nat.le_refl _⟩
    · exact ⟨_, rfl, ⟨tn, (fun y hy => by rw [List.mem_singleton.mp hy]; exact tm)⟩, Nat.le_refl _, Nat.le_refl _⟩
    · exact ⟨_, rfl, ⟨trivial, (fun y hy => (nomatch hy))⟩, Nat.le_refl _, Nat.le_refl _⟩
    · exact ⟨_, rfl, ⟨trivial, (fun y hy => (nomatch hy))⟩, Nat.le_refl _, Nat.le_refl _⟩
    · exact ⟨_, rfl, ⟨tn, (fun y hy => by rw [List.mem_singleton.mp hy]; exact tm)⟩, Nat.le_refl _, Nat.le_refl _⟩
    · exact ⟨_, rfl, ⟨sg1_of (by decide +kernel) (by decide) (by decide), (fun y hy => (nomatch hy))⟩, Nat.le_refl _, Nat.le_refl _⟩
    · exact ⟨Rdr.l1 .but "", rfl, ⟨⟨List.isSublist_iff_sublist.mp (by decide +kernel), by decide⟩, (fun y hy => (nomatch hy))⟩, Nat.le_refl _, Nat.le_refl _⟩)
  walk_at "R"
  exact hP r _ g1 g2 g3 (hp4.mono (by omega))
def cost0 : Nat → Nat
  | 0 => 300
  | n + 1 => 6 * cost0 n + 300
@[irreducible] def cost (n : Nat) : Nat := cost0 n
theorem cost_s (n : Nat) : cost (n + 1) = 6 * cost n + 300 := by unfold cost; rfl
theorem cost_ge (n : Nat) : 300 ≤ cost n := by unfold cost; cases n <;> simp only [cost0] <;> omega
theorem cost_8 : cost 8 ≤ 1000000000 := by unfold cost; decide
def NmsOk (names : List Str) : Prop := names ≠ [] ∧ names.length ≤ 8 ∧ ∀ x ∈ names, Nm x
def c_rd (n : Nat) : Ct := fun as P => ∃ pen names deep u b, as = [.box (.L pen), .val (.list (names.map PyData.str)), .val (.int deep), .box (.L [.int u])] ∧ NmsOk names ∧ 1 ≤ deep ∧ deep ≤ (n : Int) ∧ 0 ≤ u ∧ u ≤ 1000 ∧ PenOk (b + cost n) pen ∧
  ∀ (r : Rdr) pen' u', Wn names r → r.dep ≤ n → 0 ≤ u' → (r.cnt : Int) ≤ 1 + u - u' → PenOk b pen' → P (.val r.toD) [.box (.L pen'), .val (.list (names.map PyData.str)), .val (.int deep), .box (.L [.int u'])]
theorem use_rd {n : Nat} {pen : List D} {names : List Str} {deep u : Int} {b : Nat} {P : R → List Ar → Prop} (hn : NmsOk names) (h1 : 1 ≤ deep) (h2 : deep ≤ (n : Int)) (h3 : 0 ≤ u) (h4 : u ≤ 1000) (hp : PenOk (b + cost n) pen)
    (h : ∀ (r : Rdr) pen' u', Wn names r → r.dep ≤ n → 0 ≤ u' → (r.cnt : Int) ≤ 1 + u - u' → PenOk b pen' → P (.val r.toD) [.box (.L pen'), .val (.list (names.map PyData.str)), .val (.int deep), .box (.L [.int u'])]) : Cl (c_rd n) [.box (.L pen), .val (.list (names.map PyData.str)), .val (.int deep), .box (.L [.int u])] P := ⟨pen, names, deep, u, b, rfl, hn, h1, h2, h3, h4, hp, h⟩
theorem n_rd (as : List Ar) (Q : R → List Ar → Prop) : ¬ c_rd 0 as Q := by
  rintro ⟨pen, names, deep, u, b, rfl, hn, h1, h2, _⟩
  omega
theorem w_rd (n : Nat) (as : List Ar) (P : R → List Ar → Prop) (h : c_rd (n + 1) as P) : ctOf 10 (m__law_reader c_draw c_leaf (c_rd n)) as P := by
  obtain ⟨pen, names, deep, u, b, rfl, hn, h1, h2, h3, h4, hp, hP⟩ := h
  have sl := sizeLine_eq
  have n0 : 0 < names.length := List.length_pos_iff.mpr hn.1
  have n8 := hn.2.1
  rw [cost_s] at hp
  have hc := cost_ge n
  generalize hC : cost n = C at *
  have fin : ∀ (r : Rdr) (pen' : List D) (b' : Nat) (u' : Int), Wn names r → r.dep ≤ n + 1 → 0 ≤ u' → (r.cnt : Int) ≤ 1 + u - u' → PenOk (b + b') pen' → P (R.val r.toD) [.box (.L pen'), .val (.list (names.map PyData.str)), .val (.int deep), .box (.L [.int u'])] := fun r pen' b' u' g1 g2 g3 g4 g5 => hP r pen' u' g1 g2 g3 g4 (g5.mono (by omega))
  walk_at "R"
  refine use_draw (b := b + (6 * C + 299)) hp (by omega) (by omega) fun v1 pen1 a1 a2 hp1 => ?_
  walk_at "R"
  apply br_d <;> intro hd
  · (walk_at "R"; refine use_leaf hn.1 hn.2.1 hn.2.2 (b := b) (hp1.mono (by omega)) fun r pen2 g1 g2 g3 hp2 => ?_; walk_at "R"; exact fin r _ 0 _ g1 (by omega) h3 (by omega) hp2)
  · walk_at "R"
    apply br_d <;> intro hd
    · (walk_at "R"; refine use_leaf hn.1 hn.2.1 hn.2.2 (b := b) (hp1.mono (by omega)) fun r pen2 g1 g2 g3 hp2 => ?_; walk_at "R"; exact fin r _ 0 _ g1 (by omega) h3 (by omega) hp2)
    · walk_at "R"
      apply br_d <;> intro hd
      · (walk_at "R"; refine use_leaf hn.1 hn.2.1 hn.2.2 (b := b) (hp1.mono (by omega)) fun r pen2 g1 g2 g3 hp2 => ?_; walk_at "R"; exact fin r _ 0 _ g1 (by omega) h3 (by omega) hp2)
      · have hdeep : 1 ≤ deep - 1 ∧ deep - 1 ≤ (n : Int) := by omega
        walk_at "R"
        refine use_draw (b := b + (6 * C + 298)) hp1 (by rw [List.length_map]; omega) (by rw [List.length_map]; omega) fun v2 pen2 b1 b2 hp2 => ?_
        obtain ⟨_, hnm, nm, rfl, tn, tm⟩ := at_all (ds := names.map PyData.str) (v := v2) (fun d => ∃ s, d = .str s ∧ Nm s ∧ s ∈ names) b1 b2 (by
          intro d hd
          simp only [List.mem_map] at hd
          obtain ⟨s, hs, rfl⟩ := hd
          exact ⟨s, rfl, hn.2.2 s hs, hs⟩)
        walk_at "R"
        refine use_draw (b := b + (6 * C + 297)) hp2 (by omega) (by omega) fun v3 pen3 c1 c2 hp3 => ?_
        obtain ⟨_, hat, s, rfl, s1, s2⟩ := at_all (ds := [PyData.int (2 + v3), PyData.int 1]) (v := if decide (4 < v1) = true then 1 else 0) (fun d => ∃ s, d = .int s ∧ 1 ≤ s ∧ s ≤ 6) (by split <;> omega) (by show _ < (2 : Int); split <;> omega) (by
          intro d hd
          simp only [List.mem_cons, List.not_mem_nil, or_false] at hd
          rcases hd with rfl | rfl <;> exact ⟨_, rfl, by omega, by omega⟩)
        have tail : ∀ (w m : Int), 0 ≤ w → w < 12 → 1 ≤ m → m ≤ 6 → m ≤ u → (w < 5 → 2 ≤ m) → m__law_reader_10 c_draw c_leaf (c_rd n) [some (.box true (.L pen3)), some (.val (.list (names.map PyData.str))), some (.val (.int deep)), some (.box true (.L [.int u])), some (.val (.int w)), some (.val (.str nm)), some (.val (.int m)), none, none, none]
            ⟨fun r => onO (endArs 0 [.box (.L pen), .val (.list (names.map PyData.str)), .val (.int deep), .box (.L [.int u])] r) fun as' => P (.val .none) as', fun x r => onO (retOf r x) fun x' => onO (endArs 0 [.box (.L pen), .val (.list (names.map PyData.str)), .val (.int deep), .box (.L [.int u])] r) fun as' => P x' as', fun _ => False, fun _ => False⟩ := by
          intro w m w1 w2 m1 m2 m3 m4
          walk_at "R"
          refine lcc_by (fun ds acc r => ∃ (pen : List D) (u' : Int) (rs : List Rdr), r = [some (.box true (.L pen)), some (.val (.list (names.map PyData.str))), some (.val (.int deep)), some (.box true (.L [.int u'])), some (.val (.int w)), some (.val (.str nm)), some (.val (.int m)), none, none, none] ∧ acc = rs.map Rdr.toD ∧ (∀ x ∈ rs, Wn names x) ∧ deps rs ≤ n ∧ ((rs.length + ds.length : Nat) : Int) = m ∧ 0 ≤ u' ∧ ((cnts rs : Nat) : Int) ≤ rs.length + (u - m) - u' ∧ PenOk (b + 290 + C * ds.length) pen) ?_ ?_ ?_
          · have e : (rangeD 0 m.toNat).length = m.toNat := range_len _ _
            refine ⟨pen3, u - m, [], rfl, rfl, (fun x hx => (nomatch hx)), Nat.zero_le _, by rw [e]; simp only [List.length_nil]; omega, by omega, by simp [cnts], hp3.mono ?_⟩
            rw [e]
            have : C * m.toNat ≤ C * 6 := Nat.mul_le_mul_left _ (by omega)
            omega
          · rintro d ds acc r ⟨pen4, u', rs, rfl, rfl, k1, k2, k3, k4, k5, k6⟩ ih
            simp only [List.length_cons, Nat.mul_succ] at k3 k6
            have hl' : (rs.map Rdr.toD).length < sizeLine := by rw [List.length_map]; omega
            walk_at "R"
            refine use_rd (b := b + 290 + C * ds.length) hn hdeep.1 hdeep.2 k4 (by omega) (by rw [hC]; exact k6.mono (by omega)) fun r pen5 u2 g1 g2 g3 g4 hp5 => ?_
            walk_at "R"
            refine ih _ _ ⟨pen5, u2, rs ++ [r], rfl, by rw [List.map_append]; rfl, ?_, ?_, by simp; omega, g3, ?_, hp5⟩
            · intro x hx
              rcases List.mem_append.mp hx with hx | hx
              · exact k1 x hx
              · rw [List.mem_singleton.mp hx]; exact g1
            · rw [deps_le] at k2 ⊢
              intro x hx
              rcases List.mem_append.mp hx with hx | hx
              · exact k2 x hx
              · rw [List.mem_singleton.mp hx]; exact g2
            · rw [cnts_app]
              simp only [cnts, List.length_append, List.length_cons, List.length_nil]
              omega
          · rintro acc r ⟨pen4, u', rs, rfl, rfl, k1, k2, k3, k4, k5, k6⟩
            simp only [List.length_nil] at k3 k6
            walk_at "R"
            apply br_d <;> intro hd
            · have hm2 := m4 hd
              obtain ⟨_, hw, wm, rfl⟩ := at_all (ds := [PyData.str "row", PyData.str "row", PyData.str "row", PyData.str "choice", PyData.str "choice"]) (v := w) (fun d => ∃ w : WM, d = .str w.s) (by omega) (by show w < 5; omega) (by
                intro d hd
                simp only [List.mem_cons, List.not_mem_nil, or_false] at hd
                rcases hd with rfl | rfl | rfl | rfl | rfl
                · exact ⟨.row, rfl⟩
                · exact ⟨.row, rfl⟩
                · exact ⟨.row, rfl⟩
                · exact ⟨.choice, rfl⟩
                · exact ⟨.choice, rfl⟩)
              walk_at "R"
              have e : (Rdr.ps wm rs).toD = .tuple [.str wm.s, .tuple (rs.map Rdr.toD)] := by rw [Rdr.toD, toDs_map]
              rw [← e]
              refine fin _ _ 290 _ ⟨⟨by omega, by omega, wfs_iff.mpr fun x hx => (k1 x hx).1⟩, anmss_sub k1⟩ (by rw [Rdr.dep]; omega) k4 ?_ (k6.mono (by omega))
              rw [Rdr.cnt]; omega
            · cases rs with
              | nil => simp at k3; omega
              | cons r rs =>
                have r1 := k1 r List.mem_cons_self
                have r2 : r.dep ≤ n := Nat.le_trans (Nat.le_max_left _ _) k2
                have r3 : (r.cnt : Int) ≤ u - u' := by
                  simp only [cnts, List.length_cons] at k5 k3
                  have := cnts_ge rs
                  omega
                have hp0 : atI ((r :: rs).map Rdr.toD) 0 = some r.toD := at_0 _ _
                have word : ∃ d, atI [PyData.str "many", PyData.str "maybe", PyData.str "ahead", PyData.str "not", PyData.str "hold", PyData.str "tag", PyData.str "make"] (w - 5) = some d ∧ ((∃ w : WO, d = .str w.s) ∨ (d = .str "hold") ∨ (d = .str "tag") ∨ d = .str "make") := at_all _ (by omega) (by show w - 5 < 7; omega) (by
                  intro d hd
                  simp only [List.mem_cons, List.not_mem_nil, or_false] at hd
                  rcases hd with rfl | rfl | rfl | rfl | rfl | rfl | rfl
                  · exact .inl ⟨.many, rfl⟩
                  · exact .inl ⟨.maybe, rfl⟩
                  · exact .inl ⟨.ahead, rfl⟩
                  · exact .inl ⟨.not, rfl⟩
                  · exact .inr (.inl rfl)
                  · exact .inr (.inr (.inl rfl))
                  · exact .inr (.inr (.inr rfl)))
                obtain ⟨_, hw, word⟩ := word
                rcases word with ⟨wo, rfl⟩ | rfl | rfl | rfl
                · cases wo <;> (walk_at "R"; exact fin (.un _ r) _ 290 _ r1 (by rw [Rdr.dep]; omega) k4 (by rw [Rdr.cnt]; omega) (k6.mono (by omega)))
                · walk_at "R"
                  exact fin (.bi .hold nm r) _ 290 _ ⟨⟨tn, r1.1⟩, fun y hy => by
                    rcases List.mem_cons.mp hy with rfl | hy
                    · exact tm
                    · exact r1.2 y hy⟩ (by rw [Rdr.dep]; omega) k4 (by rw [Rdr.cnt]; omega) (k6.mono (by omega))
                · walk_at "R"
                  exact fin (.bi .tag nm r) _ 290 _ ⟨⟨tn, r1.1⟩, fun y hy => by
                    rcases List.mem_cons.mp hy with rfl | hy
                    · exact tm
                    · exact r1.2 y hy⟩ (by rw [Rdr.dep]; omega) k4 (by rw [Rdr.cnt]; omega) (k6.mono (by omega))
                · walk_at "R"
                  refine use_draw (b := b + 289) (k6.mono (by omega)) (by omega) (by omega) fun v5 pen5 j1 j2 hp5 => ?_
                  obtain ⟨_, hmk, x, rfl, tx⟩ := at_all (ds := [PyData.str "text", PyData.str "drop", PyData.str "count", PyData.str "number"]) (v := v5) (fun d => ∃ x, d = .str x ∧ Mk x) (by omega) j2 (by
                    intro d hd
                    simp only [List.mem_cons, List.not_mem_nil, or_false] at hd
                    rcases hd with rfl | rfl | rfl | rfl
                    · exact ⟨_, rfl, .inl rfl⟩
                    · exact ⟨_, rfl, .inr (.inl rfl)⟩
                    · exact ⟨_, rfl, .inr (.inr (.inl rfl))⟩
                    · exact ⟨_, rfl, .inr (.inr (.inr rfl))⟩)
                  walk_at "R"
                  exact fin (.bi .make x r) _ 289 _ ⟨⟨tx, r1.1⟩, r1.2⟩ (by rw [Rdr.dep]; omega) k4 (by rw [Rdr.cnt]; omega) hp5
        walk_at "R"
        apply br_d <;> intro hd
        · walk_at "R"
          apply br_d <;> intro hd
          · exact tail (5 + v1) 1 (by omega) (by omega) (by omega) (by omega) (by omega) (by omega)
          · exact tail v1 _ (by omega) (by omega) (by split <;> omega) (by split <;> omega) (by split <;> omega) (fun _ => by omega)
        · exact tail v1 _ (by omega) (by omega) (by split <;> omega) (by split <;> omega) (by split <;> omega) (fun _ => by omega)
def c_within : Ct := fun as P => ∃ r : Rdr, as = [.val r.toD] ∧ P (.own (.L ((kids r).map Rdr.toD))) [.val r.toD]
theorem use_within {r : Rdr} {P : R → List Ar → Prop} (h : P (.own (.L ((kids r).map Rdr.toD))) [.val r.toD]) : Cl c_within [.val r.toD] P := ⟨r, rfl, h⟩
theorem w_within (as : List Ar) (P : R → List Ar → Prop) (h : c_within as P) : ctOf 3 m_within as P := by
  obtain ⟨r, rfl, hP⟩ := h
  have sl := sizeLine_eq
  cases r with
  | l0 w => cases w <;> (walk_at "R"; exact hP)
  | l1 w x => cases w <;> (walk_at "R"; exact hP)
  | ps w rs =>
    have e : (Rdr.ps w rs).toD = .tuple [.str w.s, .tuple (rs.map Rdr.toD)] := by rw [Rdr.toD, toDs_map]
    rw [e] at hP ⊢
    cases w <;> (walk_at "R"; exact hP)
  | un w r => cases w <;> (walk_at "R"; exact hP)
  | bi w x r => cases w <;> (walk_at "R"; exact hP)
theorem w_inner (as : List Ar) (P : R → List Ar → Prop) (h : c_within as P) : ctOf 1 m__law_inner as P := by
  obtain ⟨r, rfl, hP⟩ := h
  have sl := sizeLine_eq
  cases r with
  | l0 w => cases w <;> (walk_at "R"; exact hP)
  | l1 w x => cases w <;> (walk_at "R"; exact hP)
  | ps w rs =>
    have e : (Rdr.ps w rs).toD = .tuple [.str w.s, .tuple (rs.map Rdr.toD)] := by rw [Rdr.toD, toDs_map]
    rw [e] at hP ⊢
    cases w <;> (walk_at "R"; exact hP)
  | un w r => cases w <;> (walk_at "R"; exact hP)
  | bi w x r => cases w <;> (walk_at "R"; exact hP)
mutual
/-- a reader and all within it, in order -/
def pre : Rdr → List Rdr
  | .l0 w => [.l0 w]
  | .l1 w x => [.l1 w x]
  | .ps w rs => .ps w rs :: pres rs
  | .un w r => .un w r :: pre r
  | .bi w x r => .bi w x r :: pre r
def pres : List Rdr → List Rdr
  | [] => []
  | r :: rs => pre r ++ pres rs
end
theorem pre_kids (r : Rdr) : pre r = r :: pres (kids r) := by
  cases r <;> simp [pre, pres, kids]
theorem pres_app : ∀ rs qs : List Rdr, pres (rs ++ qs) = pres rs ++ pres qs
  | [], _ => rfl
  | r :: rs, qs => by simp only [List.cons_append, pres, pres_app rs qs, List.append_assoc]
mutual
theorem pre_len : ∀ r : Rdr, (pre r).length = r.cnt
  | .l0 w => rfl
  | .l1 w x => rfl
  | .ps w rs => by rw [pre, List.length_cons, pres_len rs, Rdr.cnt]
  | .un w r => by rw [pre, List.length_cons, pre_len r, Rdr.cnt]
  | .bi w x r => by rw [pre, List.length_cons, pre_len r, Rdr.cnt]
theorem pres_len : ∀ rs : List Rdr, (pres rs).length = cnts rs
  | [] => rfl
  | r :: rs => by rw [pres, List.length_append, pre_len r, pres_len rs, cnts]
end
def c_aw (n : Nat) : Ct := fun as P => ∃ r : Rdr, as = [.val r.toD] ∧ r.dep ≤ n ∧ r.cnt ≤ 1000000 ∧ P (.own (.L ((pre r).map Rdr.toD))) [.val r.toD]
theorem use_aw {n : Nat} {r : Rdr} {P : R → List Ar → Prop} (h1 : r.dep ≤ n) (h2 : r.cnt ≤ 1000000) (h : P (.own (.L ((pre r).map Rdr.toD))) [.val r.toD]) : Cl (c_aw n) [.val r.toD] P := ⟨r, rfl, h1, h2, h⟩
theorem n_aw (as : List Ar) (Q : R → List Ar → Prop) : ¬ c_aw 0 as Q := by
  rintro ⟨r, rfl, h, _⟩
  have := r.dep_pos
  omega
theorem w_aw (n : Nat) (as : List Ar) (P : R → List Ar → Prop) (h : c_aw (n + 1) as P) : ctOf 3 (m_all_within c_within (c_aw n)) as P := by
  obtain ⟨r, rfl, hd, hc, hP⟩ := h
  have sl := sizeLine_eq
  have kd := kids_dep hd
  have hl := pre_len r
  rw [pre_kids, List.length_cons] at hl
  rw [pre_kids] at hP
  walk_at "R"
  refine use_within ?_
  walk_at "R"
  refine lp_by (fun ds ρ => ∃ (dn rest : List Rdr) (s2 : Option D), kids r = dn ++ rest ∧ ds = rest.map Rdr.toD ∧ ρ = [some (.val r.toD), some (.box false (.L ((r :: pres dn).map Rdr.toD))), s2.map Ce.val]) ?_ ?_ ?_
  · exact ⟨[], kids r, none, rfl, rfl, rfl⟩
  · rintro d ds ρ ⟨dn, rest, s2, k1, k2, rfl⟩ ih
    cases rest with
    | nil => cases k2
    | cons q rest =>
    simp only [List.map_cons, List.cons.injEq] at k2
    obtain ⟨rfl, rfl⟩ := k2
    have hq : q ∈ kids r := by rw [k1]; simp
    have hqc := kids_cnt q hq
    rw [k1, pres_app, List.length_append, pres, List.length_append] at hl
    have l1 : ((r :: pres dn).map Rdr.toD).length + ((pre q).map Rdr.toD).length ≤ sizeLine := by rw [List.length_map, List.length_map, List.length_cons]; omega
    walk_at "R"
    refine use_aw (kd q hq) (by omega) ?_
    walk_at "R"
    refine ih _ ⟨dn ++ [q], rest, some q.toD, by rw [k1]; simp, rfl, ?_⟩
    rw [pres_app]
    simp [pres]
  · rintro ρ ⟨dn, rest, s2, k1, k2, rfl⟩
    have e0 : rest = [] := by simpa using k2.symm
    subst e0
    rw [List.append_nil] at k1
    rw [k1] at hP
    walk_at "R"
    exact hP
end L04
namespace L04
open PySem L2 PyProof.Rows DL
local macro_rules | `(tactic| walk_at "G") => `(tactic| ((conv => whnf); try dsimp only [DL.MB.toD, DL.cellOf]))
local macro_rules | `(tactic| walk_at "O") => `(tactic| first | assumption | omega | (refine ⟨?_, ?_⟩ <;> first | assumption | omega) | (simp only [DL.app_len]; omega) | (simp only [List.length_append, List.length_cons, List.length_nil, List.length_map]; omega))
local macro_rules | `(tactic| walk_at "P") => `(tactic| first | omega | (simp only [List.length_map]; omega))
local macro_rules | `(tactic| walk_at "R") => `(tactic| (walk_at "G"; repeat ((first | (apply DL.Rq.mk; (· walk_at "O")) | (apply DL.on_i; (· assumption)) | (apply DL.rqB.mk; (· exact DL.okR_of (by walk_at "P") (by walk_at "P"))) | (apply DL.rqB.mk; (· exact DL.okR2_of (by walk_at "P") (by walk_at "P") (by walk_at "P") (by walk_at "P")))); walk_at "G")))
local macro_rules | `(tactic| walk_at "N") => `(tactic| (walk_at "R"; repeat ((first | (refine And.intro rfl ?_) | (refine And.intro (of_decide_eq_true rfl) ?_) | (refine And.intro (by decide) ?_)); walk_at "R")))
theorem w_lsigns (as : List Ar) (P : R → List Ar → Prop) (h : c_sgn as P) : ctOf 6 (m__law_is_signs c_all) as P := by
  obtain ⟨d, least, rfl, hF, hP⟩ := h
  have sl := sizeLine_eq
  cases d with
  | str x =>
    have hx := hF.str
    have hx2 : x.cps.toList.length ≤ 1000000 := by rw [← slen]; exact hx
    have e0 : isSigns least (.str x) = (decide ((x.length : Int) ≤ 94) && x.cps.toList.all inS && (!decide ((x.length : Int) < least) && rising x.cps.toList)) := rfl
    rw [e0] at hP
    walk_at "R"
    apply br_d <;> intro hd
    · rw [decide_eq_false (show ¬ (x.length : Int) < least by omega)] at hP
      walk_at "R"
      apply br_nd <;> intro hd
      · rw [decide_eq_false hd] at hP
        walk_at "R"
        exact hP
      · rw [decide_eq_true hd] at hP
        walk_at "R"
        refine use_all ?_
        walk_at "R"
        refine lc_list (as := x.cps.toList) (fun c => .str ⟨#[c]⟩) (fun c => .int (fnd c)) (fun c hc ds acc ha hk => ?_) (by omega) ?_
        · walk_at "R"
          exact hk
        · walk_at "R"
          apply rqB.mk
          · rw [flatD_ints]; rfl
          rw [Bool.false_xor]
          have ein := in_fnd x.cps.toList
          cases hall : x.cps.toList.all inS with
          | false =>
            rw [ein, hall]
            rw [hall] at hP
            walk_at "R"
            exact hP
          | true =>
            rw [ein, hall]
            rw [hall] at hP
            have hr := rising_at x.cps.toList hall
            have em : ((((x.cps.toList.map fun c => PyData.int (fnd c)).length : Nat) : Int) - 1).toNat = x.cps.toList.length - 1 := by rw [List.length_map]; omega
            walk_at "R"
            rw [em]
            change Lc _ _ _ _ _ ((List.range (x.cps.toList.length - 1)).map fun i => PyData.int (1 + (i : Nat))) _ _
            refine lc_filt (as := List.range (x.cps.toList.length - 1)) (fun i => PyData.int (1 + (i : Nat))) (fun i => PyData.int (1 + (i : Nat))) (fun i => decide (fnd (x.cps.toList.getD (i + 1) 0) ≤ fnd (x.cps.toList.getD i 0))) (fun i hi ds acc ha hk1 hk2 => ?_) (by rw [List.length_range]; omega) ?_
            · rw [List.mem_range] at hi
              have at1 : atI (x.cps.toList.map fun c => PyData.int (fnd c)) (1 + (i : Int) - 1) = some (.int (fnd (x.cps.toList.getD i 0))) := by
                rw [show 1 + (i : Int) - 1 = ((i : Nat) : Int) by omega]
                exact at_nat (map_getD (by omega) _)
              have at2 : atI (x.cps.toList.map fun c => PyData.int (fnd c)) (1 + (i : Int)) = some (.int (fnd (x.cps.toList.getD (i + 1) 0))) := by
                rw [show 1 + (i : Int) = ((i + 1 : Nat) : Int) by omega]
                exact at_nat (map_getD (by omega) _)
              walk_at "R"
              apply br_b <;> intro hd
              · walk_at "R"
                exact hk1 hd
              · walk_at "R"
                exact hk2 hd
            · have e6 : (((List.range (x.cps.toList.length - 1)).filter fun i => decide (fnd (x.cps.toList.getD (i + 1) 0) ≤ fnd (x.cps.toList.getD i 0))).map fun i => PyData.int (1 + (i : Nat))).isEmpty = rising x.cps.toList := by
                rw [List.isEmpty_map, Bool.eq_iff_iff, List.isEmpty_iff]
                exact hr
              rw [← e6] at hP
              walk_at "R"
              exact hP
    · rw [decide_eq_true (show (x.length : Int) < least by omega)] at hP
      simp only [Bool.not_true, Bool.false_and, Bool.and_false] at hP
      walk_at "R"
      exact hP
  | none => walk_at "R"; exact hP
  | bool b => walk_at "R"; exact hP
  | int i => walk_at "R"; exact hP
  | list ds => walk_at "R"; exact hP
  | tuple ds => walk_at "R"; exact hP
  | dict kvs => walk_at "R"; exact hP
theorem w_lnamed (as : List Ar) (P : R → List Ar → Prop) (h : c_name as P) : ctOf 2 m__law_named as P := by
  obtain ⟨d, rfl, hF, hP⟩ := h
  have sl := sizeLine_eq
  cases d with
  | str x =>
    have hx := hF.str
    have hx2 : x.cps.toList.length ≤ 1000000 := by rw [← slen]; exact hx
    have e0 : isName (.str x) = (decide (1 ≤ (x.length : Int)) && (decide ((x.length : Int) ≤ 8) && x.cps.toList.all inL)) := rfl
    rw [e0] at hP
    walk_at "R"
    apply br_d <;> intro hd
    · rw [decide_eq_true hd] at hP
      walk_at "R"
      apply br_nd <;> intro hd
      · rw [decide_eq_false hd] at hP
        walk_at "R"
        exact hP
      · rw [decide_eq_true hd] at hP
        walk_at "R"
        refine lc_filt (as := x.cps.toList) (fun c => .str ⟨#[c]⟩) (fun c => .str ⟨#[c]⟩) (fun c => !inL c) (fun c hc ds acc ha hk1 hk2 => ?_) (by omega) ?_
        · walk_at "R"
          rw [Bool.true_xor, strIn_one]
          apply br_b <;> intro hd
          · walk_at "R"
            exact hk1 hd
          · walk_at "R"
            exact hk2 hd
        · have e5 : ((x.cps.toList.filter fun c => !inL c).map fun c => PyData.str ⟨#[c]⟩).isEmpty = x.cps.toList.all inL := by
            rw [List.isEmpty_map, Bool.eq_iff_iff, List.isEmpty_iff, List.filter_eq_nil_iff, List.all_eq_true]
            simp
          rw [← e5] at hP
          walk_at "R"
          exact hP
    · rw [decide_eq_false hd] at hP
      walk_at "R"
      exact hP
  | none => walk_at "R"; exact hP
  | bool b => walk_at "R"; exact hP
  | int i => walk_at "R"; exact hP
  | list ds => walk_at "R"; exact hP
  | tuple ds => walk_at "R"; exact hP
  | dict kvs => walk_at "R"; exact hP
theorem w_lrd (n : Nat) (as : List Ar) (P : R → List Ar → Prop) (h : c_formed (n + 1) as P) : ctOf 3 (m__law_is_reader c_sgn c_name (c_formed n)) as P := by
  obtain ⟨d, l, rfl, hl, hF, hP⟩ := h
  have sl := sizeLine_eq
  cases l with
  | zero => walk_at "R"; exact hP
  | succ l =>
    have hl1 : ((l + 1 : Nat) : Int) - 1 = (l : Int) := by omega
    cases d with
    | tuple ds =>
      have hz := hF.len
      cases ds with
      | nil => walk_at "R"; exact hP
      | cons w ps =>
        have hat := at_0 w ps
        cases w with
        | str w =>
          have hps : ∀ d ∈ ps, Fit d := fun d hd => hF.tup d (List.mem_cons_of_mem _ hd)
          have nope : ∀ (w fs : Str) (ps : List D), tLook FORMS w = some fs → ¬ ps.length = fs.length → isForm (l + 1) (.tuple (.str w :: ps)) = false := fun w fs ps h1 h2 => by
            simp only [isForm, h1, decide_eq_false h2, Bool.false_and]
          rcases word_cases w with hw | hw | hw | hw | hw | hw | hw | ⟨hk, f1, f2, f3, f4, f5, f6, f7⟩
          · cases ps with
            | nil => rcases hw with rfl | rfl <;> (walk_at "R"; exact hP)
            | cons p ps =>
              have e : ¬ (((PyData.str w :: p :: ps).length : Nat) : Int) = 1 := by simp only [List.length_cons]; omega
              rcases hw with rfl | rfl
              · rw [nope _ _ _ (show tLook FORMS "nothing" = some "" from rfl) (by simp only [List.length_cons]; intro z; cases z), ← decide_eq_false e] at hP
                walk_at "R"
                exact hP
              · rw [nope _ _ _ (show tLook FORMS "never" = some "" from rfl) (by simp only [List.length_cons]; intro z; cases z), ← decide_eq_false e] at hP
                walk_at "R"
                exact hP
          · rcases ps with _ | ⟨p, _ | ⟨q, ps⟩⟩
            · rcases hw with rfl | rfl <;> (walk_at "R"; exact hP)
            · have hp := hps p List.mem_cons_self
              rcases hw with rfl | rfl
              · have e : isForm (l + 1) (.tuple [.str "sign", p]) = (isSigns 1 p && true) := rfl
                rw [e, Bool.and_true] at hP
                walk_at "R"
                refine use_sgn hp ?_
                walk_at "R"
                exact hP
              · have e : isForm (l + 1) (.tuple [.str "but", p]) = (isSigns 0 p && true) := rfl
                rw [e, Bool.and_true] at hP
                walk_at "R"
                refine use_sgn hp ?_
                walk_at "R"
                exact hP
            · have e : ¬ (((PyData.str w :: p :: q :: ps).length : Nat) : Int) = 2 := by simp only [List.length_cons]; omega
              have e2 : isForm (l + 1) (.tuple (.str w :: p :: q :: ps)) = false := by
                rcases hw with rfl | rfl
                · exact nope _ "s" _ rfl (by simp only [List.length_cons]; intro z; cases z)
                · exact nope _ "b" _ rfl (by simp only [List.length_cons]; intro z; cases z)
              rw [e2, ← decide_eq_false e] at hP
              rcases hw with rfl | rfl <;> (walk_at "R"; exact hP)
          · rcases ps with _ | ⟨p, _ | ⟨q, ps⟩⟩
            · rcases hw with rfl | rfl <;> (walk_at "R"; exact hP)
            · have hp := hps p List.mem_cons_self
              have e : isForm (l + 1) (.tuple [.str w, p]) = (isName p && true) := by rcases hw with rfl | rfl <;> rfl
              rw [e, Bool.and_true] at hP
              rcases hw with rfl | rfl <;> (walk_at "R"; refine use_name hp ?_; walk_at "R"; exact hP)
            · have e : ¬ (((PyData.str w :: p :: q :: ps).length : Nat) : Int) = 2 := by simp only [List.length_cons]; omega
              have e2 : isForm (l + 1) (.tuple (.str w :: p :: q :: ps)) = false := by
                rcases hw with rfl | rfl
                · exact nope _ "n" _ rfl (by simp only [List.length_cons]; intro z; cases z)
                · exact nope _ "n" _ rfl (by simp only [List.length_cons]; intro z; cases z)
              rw [e2, ← decide_eq_false e] at hP
              rcases hw with rfl | rfl <;> (walk_at "R"; exact hP)
          · rcases ps with _ | ⟨p, _ | ⟨q, ps⟩⟩
            · rcases hw with rfl | rfl <;> (walk_at "R"; exact hP)
            · have hp := hps p List.mem_cons_self
              have e : isForm (l + 1) (.tuple [.str w, p]) = (isPiece (isForm l) 112 p && true) := by rcases hw with rfl | rfl <;> rfl
              rw [e, Bool.and_true] at hP
              cases p with
              | tuple qs =>
                have hb := blsOf_map (isForm l) qs
                have hz2 := hp.len
                have e0 : isPiece (isForm l) 112 (.tuple qs) = (decide (2 ≤ (qs.length : Int)) && (decide ((qs.length : Int) ≤ 6) && qs.all (isForm l))) := rfl
                rw [e0] at hP
                have go : ∀ w : Str, (w = "row" ∨ w = "choice") → P (.val (.bool (decide (2 ≤ (qs.length : Int)) && (decide ((qs.length : Int) ≤ 6) && qs.all (isForm l))))) [.val (.tuple [.str w, .tuple qs]), .val (.int ((l + 1 : Nat) : Int))] → ctOf 3 (m__law_is_reader c_sgn c_name (c_formed n)) [.val (.tuple [.str w, .tuple qs]), .val (.int ((l + 1 : Nat) : Int))] P := by
                  intro w hw hP
                  rcases hw with rfl | rfl <;>
                  · walk_at "R"
                    apply br_d <;> intro hd
                    · have h1 := hd
                      rw [decide_eq_true h1] at hP
                      walk_at "R"
                      apply br_nd <;> intro hd
                      · have h2 := hd
                        rw [decide_eq_false h2] at hP
                        walk_at "R"
                        exact hP
                      · have h2 := hd
                        rw [decide_eq_true h2, ← all_map] at hP
                        walk_at "R"
                        refine lc_id (as := qs) (fun d => .bool (isForm l d)) (fun d hm ds acc ha hk => ?_) (by omega) ?_
                        · walk_at "R"
                          rw [hl1]
                          refine use_formed (by omega) (hp.tup d hm) ?_
                          walk_at "R"
                          exact hk
                        · walk_at "R"
                          exact hP
                    · have h1 := hd
                      rw [decide_eq_false h1] at hP
                      walk_at "R"
                      exact hP
                exact go w hw hP
              | str x => rcases hw with rfl | rfl <;> (walk_at "R"; exact hP)
              | none => rcases hw with rfl | rfl <;> (walk_at "R"; exact hP)
              | bool b => rcases hw with rfl | rfl <;> (walk_at "R"; exact hP)
              | int i => rcases hw with rfl | rfl <;> (walk_at "R"; exact hP)
              | list ds => rcases hw with rfl | rfl <;> (walk_at "R"; exact hP)
              | dict kvs => rcases hw with rfl | rfl <;> (walk_at "R"; exact hP)
            · have e : ¬ (((PyData.str w :: p :: q :: ps).length : Nat) : Int) = 2 := by simp only [List.length_cons]; omega
              have e2 : isForm (l + 1) (.tuple (.str w :: p :: q :: ps)) = false := by
                rcases hw with rfl | rfl
                · exact nope _ "p" _ rfl (by simp only [List.length_cons]; intro z; cases z)
                · exact nope _ "p" _ rfl (by simp only [List.length_cons]; intro z; cases z)
              rw [e2] at hP
              rcases hw with rfl | rfl <;> (walk_at "R"; exact hP)
          · rcases ps with _ | ⟨p, _ | ⟨q, ps⟩⟩
            · rcases hw with rfl | rfl | rfl | rfl <;> (walk_at "R"; exact hP)
            · have hp := hps p List.mem_cons_self
              have e : isForm (l + 1) (.tuple [.str w, p]) = (isForm l p && true) := by rcases hw with rfl | rfl | rfl | rfl <;> rfl
              rw [e, Bool.and_true] at hP
              rcases hw with rfl | rfl | rfl | rfl <;> (walk_at "R"; rw [hl1]; refine use_formed (by omega) hp ?_; walk_at "R"; exact hP)
            · have e : ¬ (((PyData.str w :: p :: q :: ps).length : Nat) : Int) = 2 := by simp only [List.length_cons]; omega
              have e2 : isForm (l + 1) (.tuple (.str w :: p :: q :: ps)) = false := by
                rcases hw with rfl | rfl | rfl | rfl <;> exact nope _ "r" _ rfl (by simp only [List.length_cons]; intro z; cases z)
              rw [e2, ← decide_eq_false e] at hP
              rcases hw with rfl | rfl | rfl | rfl <;> (walk_at "R"; exact hP)
          · rcases ps with _ | ⟨p, _ | ⟨q, _ | ⟨s, ps⟩⟩⟩
            · rcases hw with rfl | rfl <;> (walk_at "R"; exact hP)
            · rcases hw with rfl | rfl <;> (walk_at "R"; exact hP)
            · have hp := hps p List.mem_cons_self
              have hq := hps q (List.mem_cons_of_mem _ List.mem_cons_self)
              have e : isForm (l + 1) (.tuple [.str w, p, q]) = (isName p && (isForm l q && true)) := by rcases hw with rfl | rfl <;> rfl
              rw [e, Bool.and_true] at hP
              cases hn : isName p with
              | true =>
                rw [hn, Bool.true_and] at hP
                rcases hw with rfl | rfl <;> (walk_at "R"; refine use_name hp ?_; rw [hn]; walk_at "R"; rw [hl1]; refine use_formed (by omega) hq ?_; walk_at "R"; exact hP)
              | false =>
                rw [hn, Bool.false_and] at hP
                rcases hw with rfl | rfl <;> (walk_at "R"; refine use_name hp ?_; rw [hn]; walk_at "R"; exact hP)
            · have e : ¬ (((PyData.str w :: p :: q :: s :: ps).length : Nat) : Int) = 3 := by simp only [List.length_cons]; omega
              have e2 : isForm (l + 1) (.tuple (.str w :: p :: q :: s :: ps)) = false := by
                rcases hw with rfl | rfl <;> exact nope _ "nr" _ rfl (by simp only [List.length_cons]; intro z; cases z)
              rw [e2, ← decide_eq_false e] at hP
              rcases hw with rfl | rfl <;> (walk_at "R"; exact hP)
          · subst hw
            rcases ps with _ | ⟨p, _ | ⟨q, _ | ⟨s, ps⟩⟩⟩
            · walk_at "R"; exact hP
            · walk_at "R"; exact hP
            · have hp := hps p List.mem_cons_self
              have hq := hps q (List.mem_cons_of_mem _ List.mem_cons_self)
              have e : isForm (l + 1) (.tuple [.str "make", p, q]) = (isMake p && (isForm l q && true)) := rfl
              rw [e, Bool.and_true] at hP
              cases p with
              | str x =>
                cases hn : isMake (.str x) with
                | true =>
                  rw [hn, Bool.true_and] at hP
                  have hn' : flatIn (.str x) [.str "text", .str "drop", .str "count", .str "number"] = true := hn
                  walk_at "R"
                  rw [hn']
                  walk_at "R"
                  rw [hl1]
                  refine use_formed (by omega) hq ?_
                  walk_at "R"
                  exact hP
                | false =>
                  rw [hn, Bool.false_and] at hP
                  have hn' : flatIn (.str x) [.str "text", .str "drop", .str "count", .str "number"] = false := hn
                  walk_at "R"
                  rw [hn']
                  walk_at "R"
                  exact hP
              | none => walk_at "R"; exact hP
              | bool b => walk_at "R"; exact hP
              | int i => walk_at "R"; exact hP
              | list ds => walk_at "R"; exact hP
              | tuple ds => walk_at "R"; exact hP
              | dict kvs => walk_at "R"; exact hP
            · have e : ¬ (((PyData.str "make" :: p :: q :: s :: ps).length : Nat) : Int) = 3 := by simp only [List.length_cons]; omega
              rw [nope _ "wr" _ rfl (by simp only [List.length_cons]; intro z; cases z)] at hP
              walk_at "R"
              exact hP
          · have e : isForm (l + 1) (.tuple (.str w :: ps)) = false := by simp only [isForm, hk]
            rw [e] at hP
            walk_at "R"
            rw [f1]
            walk_at "R"
            rw [f2]
            walk_at "R"
            rw [f3]
            walk_at "R"
            rw [f4]
            walk_at "R"
            rw [f5]
            walk_at "R"
            rw [f6]
            walk_at "R"
            apply br_nd <;> intro hd
            · walk_at "R"
              exact hP
            · exact absurd hd f7
        | none => walk_at "R"; exact hP
        | bool b => walk_at "R"; exact hP
        | int i => walk_at "R"; exact hP
        | list ds => walk_at "R"; exact hP
        | tuple ds => walk_at "R"; exact hP
        | dict kvs => walk_at "R"; exact hP
    | str x => walk_at "R"; exact hP
    | none => walk_at "R"; exact hP
    | bool b => walk_at "R"; exact hP
    | int i => walk_at "R"; exact hP
    | list ds => walk_at "R"; exact hP
    | dict kvs => walk_at "R"; exact hP
end L04
namespace L04
open PySem L2 PyProof.Rows DL
local macro_rules | `(tactic| walk_at "G") => `(tactic| ((conv => whnf); try dsimp only [DL.MB.toD, DL.cellOf]))
local macro_rules | `(tactic| walk_at "O") => `(tactic| first | assumption | omega | (refine ⟨?_, ?_⟩ <;> first | assumption | omega) | (simp only [DL.app_len]; omega) | (simp only [List.length_append, List.length_cons, List.length_nil, List.length_map]; omega))
local macro_rules | `(tactic| walk_at "P") => `(tactic| first | omega | (simp only [List.length_map]; omega))
local macro_rules | `(tactic| walk_at "R") => `(tactic| (walk_at "G"; repeat ((first | (apply DL.Rq.mk; (· walk_at "O")) | (apply DL.on_i; (· assumption)) | (apply DL.rqB.mk; (· exact DL.okR_of (by walk_at "P") (by walk_at "P"))) | (apply DL.rqB.mk; (· exact DL.okR2_of (by walk_at "P") (by walk_at "P") (by walk_at "P") (by walk_at "P")))); walk_at "G")))
local macro_rules | `(tactic| walk_at "N") => `(tactic| (walk_at "R"; repeat ((first | (refine And.intro rfl ?_) | (refine And.intro (of_decide_eq_true rfl) ?_) | (refine And.intro (by decide) ?_)); walk_at "R")))
def c_odd : Ct := fun as P => ∃ (pen : List D) (d : D) (b : Nat), as = [.box (.L pen), .val d] ∧ Pl d ∧ PenOk (b + 1) pen ∧ ∀ o pen', Bt (2 * wt d + 3000) (d.depth + 4) o → PenOk b pen' → P (.val o) [.box (.L pen'), .val d]
theorem use_odd {pen : List D} {d : D} {b : Nat} {P : R → List Ar → Prop} (hd : Pl d) (hp : PenOk (b + 1) pen) (h : ∀ o pen', Bt (2 * wt d + 3000) (d.depth + 4) o → PenOk b pen' → P (.val o) [.box (.L pen'), .val d]) : Cl c_odd [.box (.L pen), .val d] P := ⟨pen, d, b, rfl, hd, hp, h⟩
def oddL (d : D) : List D := [.none, .bool true, .int 0, .str "", .str "a", .str "ba", .str "aa", .str "Ab", .str "nothing", .tuple [], .list [], .dict [], .tuple [.str "nothing"], .list [.str "nothing"], .tuple [.str "sign", .str ""],
  .tuple [.str "but", .str "ba"], .tuple [.str "sign", .str "a", .str "b"], .tuple [.str "row", .tuple [.tuple [.str "nothing"]]], .tuple [.str "choice", .tuple []], .tuple [.str "many"], .tuple [.str "name", .str "A"],
  .tuple [.str "make", .str "texts", .tuple [.str "never"]], .tuple [.str "tag", .tuple [.str "never"], .str "a"], .tuple [d], .list [d], .tuple [.str "row", .list [d, d]],
  .tuple [.str "row", .tuple (List.replicate (Int.toNat 7) [PyData.tuple [PyData.str "never"]]).flatten], .tuple [.str "hold", .str "ninesigns", d], .tuple [.str "again", .int 7], .tuple [.str "sign", .int 7], .tuple [.str "not", d, d],
  .tuple [.str "sign", .str "\t"], .tuple [.str "but", .str "a\t"], .tuple [.str "but", .str SIGNS], .tuple [.str "sign", .str SIGNS], .tuple [.str "but", .str (cutS SIGNS (some 1) none)]]
theorem pl_str {x : Str} (h : okSB x = true) : Pl (.str x) := ⟨okS_of h, rfl, rfl⟩
theorem pls1 {a : D} (h : Pl a) : Pls [a] := fun x hx => by rw [List.mem_singleton.mp hx]; exact h
theorem pls_cons {a : D} {ds : List D} (h : Pl a) (g : Pls ds) : Pls (a :: ds) := fun x hx => by
  rcases List.mem_cons.mp hx with rfl | hx
  · exact h
  · exact g x hx
theorem pls_nil : Pls [] := fun x hx => by cases hx
theorem odd_ok {d : D} (hd : Pl d) : ∀ o ∈ oddL d, Bt (2 * wt d + 3000) (d.depth + 4) o := by
  have c : ∀ o, constB 3000 4 o = true → Bt (2 * wt d + 3000) (d.depth + 4) o := fun o h => (constB_ok h).mono (by omega) (by omega)
  have d1 : Bt (2 * wt d + 3000) (d.depth + 4) (.tuple [d]) := (Bt.plain (pls1 hd)).mono (by simp only [wts]; omega) (by simp only [PyData.depthAll]; omega)
  have d2 : Bt (2 * wt d + 3000) (d.depth + 4) (.list [d]) := (Bt.list (pls1 hd)).mono (by simp only [wts]; omega) (by simp only [PyData.depthAll]; omega)
  have d3 : Bt (2 * wt d + 3000) (d.depth + 4) (.tuple [.str "row", .list [d, d]]) := (Bt.swap (A := [.str "row"]) (B := []) (pls1 (pl_str (by decide +kernel))) pls_nil (Bt.list (pls_cons hd (pls1 hd)))).mono (by simp only [wts, wt, show (Str.ofString "row").length = 3 from rfl]; omega) (by simp only [PyData.depthAll, PyData.depth]; omega)
  have d4 : Bt (2 * wt d + 3000) (d.depth + 4) (.tuple [.str "hold", .str "ninesigns", d]) := (Bt.plain (pls_cons (pl_str (by decide +kernel)) (pls_cons (pl_str (by decide +kernel)) (pls1 hd)))).mono (by simp only [wts, wt, show (Str.ofString "hold").length = 4 from rfl, show (Str.ofString "ninesigns").length = 9 from rfl]; omega) (by simp only [PyData.depthAll, PyData.depth]; omega)
  have d5 : Bt (2 * wt d + 3000) (d.depth + 4) (.tuple [.str "not", d, d]) := (Bt.plain (pls_cons (pl_str (by decide +kernel)) (pls_cons hd (pls1 hd)))).mono (by simp only [wts, wt, show (Str.ofString "not").length = 3 from rfl]; omega) (by simp only [PyData.depthAll, PyData.depth]; omega)
  intro o ho
  simp only [oddL, List.mem_cons, List.not_mem_nil, or_false] at ho
  rcases ho with rfl | rfl | rfl | rfl | rfl | rfl | rfl | rfl | rfl | rfl | rfl | rfl | rfl | rfl | rfl | rfl | rfl | rfl | rfl | rfl | rfl | rfl | rfl | rfl | rfl | rfl | rfl | rfl | rfl | rfl | rfl | rfl | rfl | rfl | rfl | rfl <;> first
    | exact c _ (by decide +kernel)
    | exact d1
    | exact d2
    | exact d3
    | exact d4
    | exact d5
theorem w_odd (as : List Ar) (P : R → List Ar → Prop) (h : c_odd as P) : ctOf 3 (m__law_odd c_all c_draw) as P := by
  obtain ⟨pen, d, b, rfl, hd, hp, hP⟩ := h
  have sl := sizeLine_eq
  have el := SIGNS_len
  walk_at "R"
  refine use_all ?_
  walk_at "R"
  refine use_all ?_
  walk_at "R"
  refine use_all ?_
  walk_at "R"
  refine use_draw (b := b) hp (by show (0 : Int) < ((36 : Nat) : Int); decide) (by show ((36 : Nat) : Int) < 1073741824; decide) fun v pen2 b1 b2 hp2 => ?_
  obtain ⟨o, hat, ho⟩ := at_all (ds := oddL d) (v := v) (fun o => Bt (2 * wt d + 3000) (d.depth + 4) o) b1 b2 (odd_ok hd)
  walk_at "R"
  exact hP o _ ho hp2
def els : Rdr → List D
  | .l0 w => [.str w.s]
  | .l1 w x => [.str w.s, .str x]
  | .ps w rs => [.str w.s, .tuple (rs.map Rdr.toD)]
  | .un w r => [.str w.s, r.toD]
  | .bi w x r => [.str w.s, .str x, r.toD]
theorem toD_els (r : Rdr) : r.toD = .tuple (els r) := by
  cases r with
  | ps w rs => rw [Rdr.toD, toDs_map]; rfl
  | _ => rfl
theorem els_len (r : Rdr) : 0 < (els r).length ∧ (els r).length ≤ 3 := by cases r <;> simp [els]
def bN (r : Rdr) : Nat := 2 * wt r.toD + 4000
def bK (r : Rdr) : Nat := r.toD.depth + 6
def c_bent (n : Nat) : Ct := fun as P => ∃ (pen : List D) (r : Rdr) (b : Nat), as = [.box (.L pen), .val r.toD] ∧ r.wf ∧ r.dep ≤ n ∧ n ≤ 30 ∧ PenOk (b + 10 * n) pen ∧ ∀ o pen', Bt (bN r) (bK r) o → PenOk b pen' → P (.val o) [.box (.L pen'), .val r.toD]
theorem use_bent {n : Nat} {pen : List D} {r : Rdr} {b : Nat} {P : R → List Ar → Prop} (hr : r.wf) (hd : r.dep ≤ n) (hn : n ≤ 30) (hp : PenOk (b + 10 * n) pen) (h : ∀ o pen', Bt (bN r) (bK r) o → PenOk b pen' → P (.val o) [.box (.L pen'), .val r.toD]) : Cl (c_bent n) [.box (.L pen), .val r.toD] P := ⟨pen, r, b, rfl, hr, hd, hn, hp, h⟩
theorem n_bent (as : List Ar) (Q : R → List Ar → Prop) : ¬ c_bent 0 as Q := by
  rintro ⟨pen, r, b, rfl, _, h, _⟩
  have := r.dep_pos
  omega
theorem w_bent (n : Nat) (as : List Ar) (P : R → List Ar → Prop) (h : c_bent (n + 1) as P) : ctOf 7 (m__law_bent c_within c_draw (c_bent n) c_odd) as P := by
  obtain ⟨pen, r, b, rfl, hr, hdp, hn, hp, hP⟩ := h
  have sl := sizeLine_eq
  have hpl := Rdr.pl hr
  have hpls : Pls (els r) := Pl.tup.mp (toD_els r ▸ hpl)
  have hel := els_len r
  have ew : wt r.toD = wts (els r) + 4 := by rw [toD_els, wt]
  have ed : r.toD.depth = PyData.depthAll (els r) + 1 := by rw [toD_els]; simp only [PyData.depth]
  have hkl := kids_len hr
  have fin : ∀ (o : D) (pen' : List D) (b' : Nat), Bt (bN r) (bK r) o → PenOk (b + b') pen' → P (.val o) [.box (.L pen'), .val (.tuple (els r))] := fun o pen' b' h1 h2 => by
    rw [← toD_els]
    exact hP o pen' h1 (h2.mono (by omega))
  have here : ∀ (pen1 : List D) (s2 : Option Ce), PenOk (b + 5) pen1 → m__law_bent_14 c_within c_draw (c_bent n) c_odd [some (.box true (.L pen1)), some (.val r.toD), s2, none, none, none, none]
      ⟨fun r' => onO (endArs 0 [.box (.L pen), .val r.toD] r') fun as' => P (.val .none) as', fun x r' => onO (retOf r' x) fun x' => onO (endArs 0 [.box (.L pen), .val r.toD] r') fun as' => P x' as', fun _ => False, fun _ => False⟩ := by
    intro pen1 s2 hp1
    rw [toD_els]
    walk_at "R"
    refine use_draw (b := b + 4) hp1 (by omega) (by omega) fun v1 pen2 a1 a2 hp2 => ?_
    walk_at "R"
    refine use_draw (b := b + 3) hp2 (by omega) (by omega) fun v2 pen3 b1 b2 hp3 => ?_
    obtain ⟨A, B, x, e0, e1, e2, e3, e4⟩ := split_at b1 b2
    have hA : Pls A := fun d hd => hpls d (by rw [e0]; simp [hd])
    have hB : Pls B := fun d hd => hpls d (by rw [e0]; simp [hd])
    have hx : Pl x := hpls x (by rw [e0]; simp)
    have ewt : wts (els r) = wts A + (wt x + 2 + wts B) := by rw [e0, wts_app, wts]
    have edp : PyData.depthAll (els r) = max (PyData.depthAll A) (max x.depth (PyData.depthAll B)) := by rw [e0, depthAll_app, PyData.depthAll]
    have ell : (els r).length = A.length + (B.length + 1) := by rw [e0]; simp
    have l1 : (cutD (els r) none (some v2)).length ≤ 3 := by rw [e1]; omega
    have l2 : (cutD (els r) (some (v2 + 1)) none).length ≤ 3 := by rw [e2]; omega
    have l3 : (cutD (els r) (some v2) none).length ≤ 3 := by rw [e3]; simp only [List.length_cons]; omega
    have l4 : (cutD (els r) (some 1) none).length ≤ 3 := by
      rw [show (some (1 : Int)) = some ((1 : Nat) : Int) from rfl, cutD_lo, List.length_drop]; omega
    walk_at "R"
    apply br_d <;> intro hd
    · walk_at "R"
      refine use_draw (b := b + 2) hp3 (by omega) (by omega) fun v3 pen4 c1 c2 hp4 => ?_
      obtain ⟨_, hat, w, rfl, w1, w2⟩ := at_all (ds := [PyData.str "nothing", PyData.str "never", PyData.str "sign", PyData.str "but", PyData.str "row", PyData.str "choice", PyData.str "many", PyData.str "name", PyData.str "hold", PyData.str "make", PyData.str "none"]) (v := v3) (fun d => ∃ s : Str, d = .str s ∧ okSB s = true ∧ s.length ≤ 8) c1 c2 (by
        intro d hd
        simp only [List.mem_cons, List.not_mem_nil, or_false] at hd
        rcases hd with rfl | rfl | rfl | rfl | rfl | rfl | rfl | rfl | rfl | rfl | rfl <;> exact ⟨_, rfl, by decide +kernel, by decide⟩)
      walk_at "R"
      have q := cutD_lo (els r) 1
      rw [show (some (1 : Int)) = some ((1 : Nat) : Int) from rfl, q]
      have hdr : Pls ((els r).drop 1) := fun d hd => hpls d (List.mem_of_mem_drop hd)
      have wdr : wts ((els r).drop 1) ≤ wts (els r) := by
        have := wts_app ((els r).take 1) ((els r).drop 1)
        rw [List.take_append_drop] at this; omega
      have ddr : PyData.depthAll ((els r).drop 1) ≤ PyData.depthAll (els r) := by
        have := depthAll_app ((els r).take 1) ((els r).drop 1)
        rw [List.take_append_drop] at this; omega
      refine fin _ _ 2 ((Bt.plain (pls_cons (pl_str w1) hdr)).mono ?_ ?_) hp4
      · simp only [wts, wt, bN]; omega
      · simp only [PyData.depthAll, PyData.depth, bK]; omega
    · walk_at "R"
      apply br_d <;> intro hd
      · walk_at "R"
        refine use_odd (b := b + 2) hx hp3 fun o pen4 ho hp4 => ?_
        walk_at "R"
        rw [e1, e2]
        refine fin _ _ 2 ((Bt.swap hA hB ho).mono ?_ ?_) hp4
        · simp only [bN]; omega
        · simp only [bK]; omega
      · walk_at "R"
        apply br_d <;> intro hd
        · walk_at "R"
          rw [e1, e2]
          refine fin _ _ 3 ((Bt.plain (fun d hd => ?_)).mono ?_ ?_) hp3
          · rcases List.mem_append.mp hd with hd | hd
            · exact hA d hd
            · exact hB d hd
          · rw [wts_app]; simp only [bN]; omega
          · rw [depthAll_app]; simp only [bK]; omega
        · have two : ∃ d, atI [PyData.tuple (cutD (els r) none (some v2) ++ [x] ++ cutD (els r) (some v2) none), PyData.list (els r)] (v1 - 4) = some d ∧ Bt (bN r) (bK r) d := by
            refine at_all _ (by omega) (by show v1 - 4 < 2; omega) ?_
            intro d hd
            simp only [List.mem_cons, List.not_mem_nil, or_false] at hd
            rcases hd with rfl | rfl
            · rw [e1, e3]
              refine (Bt.swap hA (pls_cons hx hB) hx.bt).mono ?_ ?_
              · simp only [wts, bN]; omega
              · simp only [PyData.depthAll, bK]; omega
            · refine (Bt.list hpls).mono ?_ ?_
              · simp only [bN]; omega
              · simp only [bK]; omega
          obtain ⟨d, hd1, hd2⟩ := two
          walk_at "R"
          exact fin _ _ 3 hd2 hp3
  have hsh : SeqAt.shaped (.list ((kids r).map Rdr.toD)) = true := by
    refine shaped_ok (okDs_iff.mpr fun d hd => ?_) ?_ (hasDictAll_iff.mpr fun d hd => ?_)
    · obtain ⟨k, hk, rfl⟩ := List.mem_map.mp hd
      exact (Rdr.pl (kids_wf hr k hk)).1
    · have : PyData.depthAll ((kids r).map Rdr.toD) ≤ 60 := depthAll_le.mpr fun d hd => by
        obtain ⟨k, hk, rfl⟩ := List.mem_map.mp hd
        have h1 := Rdr.depth k
        have h2 := kids_dep hdp k hk
        omega
      simp only [PyData.depth]; omega
    · obtain ⟨k, hk, rfl⟩ := List.mem_map.mp hd
      exact Rdr.noDict k
  walk_at "R"
  refine use_within ?_
  walk_at "R"
  cases hks : kids r with
  | nil => exact here pen _ (hp.mono (by omega))
  | cons k0 ks =>
    walk_at "R"
    refine use_draw (b := b + 10 * n + 9) hp (by omega) (by omega) fun v1 pen1 a1 a2 hp1 => ?_
    walk_at "R"
    apply br_d <;> intro hd
    · cases r with
      | l0 w => cases hks
      | l1 w x => cases hks
      | un w q =>
        cases hks
        have hq : k0.dep ≤ n := by rw [Rdr.dep] at hdp; omega
        walk_at "R"
        refine use_draw (b := b + 10 * n + 8) hp1 (by show (0 : Int) < ((1 : Nat) : Int); decide) (by show ((1 : Nat) : Int) < 1073741824; decide) fun v2 pen2 b1 b2 hp2 => ?_
        obtain rfl : v2 = 0 := by have : v2 < ((1 : Nat) : Int) := b2; omega
        walk_at "R"
        refine use_bent (b := b + 8) (r := k0) hr hq (by omega) (hp2.mono (by omega)) fun o pen3 ho hp3 => ?_
        have g := (Bt.swap (A := [.str w.s]) (B := []) (pls1 ⟨w.ok.1, rfl, rfl⟩) pls_nil ho).mono (n' := bN (.un w k0)) (k' := bK (.un w k0)) (by simp only [bN, Rdr.toD, wts, wt]; omega) (by simp only [bK, Rdr.toD, PyData.depthAll, PyData.depth]; omega)
        cases w <;> (walk_at "R"; exact hP _ _ g (hp3.mono (by omega)))
      | bi w x q =>
        cases hks
        have hq : k0.dep ≤ n := by rw [Rdr.dep] at hdp; omega
        have hqw : k0.wf := kids_wf hr k0 (by simp [kids])
        have hxx : Pl (.str x) := hpls _ (by simp [els])
        walk_at "R"
        refine use_draw (b := b + 10 * n + 8) hp1 (by show (0 : Int) < ((1 : Nat) : Int); decide) (by show ((1 : Nat) : Int) < 1073741824; decide) fun v2 pen2 b1 b2 hp2 => ?_
        obtain rfl : v2 = 0 := by have : v2 < ((1 : Nat) : Int) := b2; omega
        walk_at "R"
        refine use_bent (b := b + 8) (r := k0) hqw hq (by omega) (hp2.mono (by omega)) fun o pen3 ho hp3 => ?_
        have g := (Bt.swap (A := [.str w.s, .str x]) (B := []) (pls_cons ⟨w.ok.1, rfl, rfl⟩ (pls1 hxx)) pls_nil ho).mono (n' := bN (.bi w x k0)) (k' := bK (.bi w x k0)) (by simp only [bN, Rdr.toD, wts, wt]; omega) (by simp only [bK, Rdr.toD, PyData.depthAll, PyData.depth]; omega)
        cases w <;> (walk_at "R"; exact hP _ _ g (hp3.mono (by omega)))
      | ps w rs =>
        have hks' : rs = k0 :: ks := hks
        rw [← hks']
        have e : (Rdr.ps w rs).toD = .tuple [.str w.s, .tuple (rs.map Rdr.toD)] := by rw [Rdr.toD, toDs_map]
        have hr6 : rs.length ≤ 6 := hr.2.1
        have hr0 : 0 < rs.length := by rw [hks']; simp
        have hrl : (rs.map Rdr.toD).length = rs.length := List.length_map ..
        rw [e] at hP ⊢
        walk_at "R"
        refine use_draw (b := b + 10 * n + 8) hp1 (by rw [hrl]; omega) (by rw [hrl]; omega) fun v2 pen2 b1 b2 hp2 => ?_
        obtain ⟨A, B, x, e0, e1, e2, e3, e4⟩ := split_at b1 b2
        have mem : ∀ d ∈ rs.map Rdr.toD, Pl d := fun d hd => by
          obtain ⟨k, hk, rfl⟩ := List.mem_map.mp hd
          exact Rdr.pl (wfs_iff.mp hr.2.2 k hk)
        have hA : Pls A := fun d hd => mem d (by rw [e0]; simp [hd])
        have hB : Pls B := fun d hd => mem d (by rw [e0]; simp [hd])
        obtain ⟨k, hk, rfl⟩ := List.mem_map.mp (show x ∈ rs.map Rdr.toD by rw [e0]; simp)
        have hkd : k.dep ≤ n := kids_dep hdp k hk
        have hlA : (cutD (rs.map Rdr.toD) none (some v2)).length ≤ 6 := by
          have := congrArg List.length e0
          rw [hrl] at this
          simp only [List.length_append, List.length_cons] at this
          rw [e1]; omega
        have hlB : (cutD (rs.map Rdr.toD) (some (v2 + 1)) none).length ≤ 6 := by
          have := congrArg List.length e0
          rw [hrl] at this
          simp only [List.length_append, List.length_cons] at this
          rw [e2]; omega
        have ewt : wts (rs.map Rdr.toD) = wts A + (wt k.toD + 2 + wts B) := by rw [e0, wts_app, wts]
        have edp : PyData.depthAll (rs.map Rdr.toD) = max (PyData.depthAll A) (max k.toD.depth (PyData.depthAll B)) := by rw [e0, depthAll_app, PyData.depthAll]
        walk_at "R"
        refine use_bent (b := b + 8) (r := k) (wfs_iff.mp hr.2.2 k hk) hkd (by omega) (hp2.mono (by omega)) fun o pen3 ho hp3 => ?_
        have g := (Bt.swap (A := [.str w.s]) (B := []) (pls1 ⟨w.ok.1, rfl, rfl⟩) pls_nil (Bt.swap hA hB ho)).mono (n' := bN (.ps w rs)) (k' := bK (.ps w rs)) (by simp only [bN, e, wts, wt]; omega) (by simp only [bK, e, PyData.depthAll, PyData.depth]; omega)
        rw [← e1, ← e2] at g
        cases w <;> (walk_at "R"; exact hP _ _ g (hp3.mono (by omega)))
    · exact here pen1 _ (hp1.mono (by omega))
end L04
namespace L04
open PySem L2 PyProof.Rows DL
local macro_rules | `(tactic| walk_at "G") => `(tactic| ((conv => whnf); try dsimp only [DL.MB.toD, DL.cellOf]))
local macro_rules | `(tactic| walk_at "O") => `(tactic| first | assumption | omega | (refine ⟨?_, ?_⟩ <;> first | assumption | omega) | (simp only [DL.app_len]; omega) | (simp only [List.length_append, List.length_cons, List.length_nil, List.length_map]; omega))
local macro_rules | `(tactic| walk_at "P") => `(tactic| first | omega | (simp only [List.length_map]; omega))
local macro_rules | `(tactic| walk_at "R") => `(tactic| (walk_at "G"; repeat ((first | (apply DL.Rq.mk; (· walk_at "O")) | (apply DL.on_i; (· assumption)) | (apply DL.rqB.mk; (· exact DL.okR_of (by walk_at "P") (by walk_at "P"))) | (apply DL.rqB.mk; (· exact DL.okR2_of (by walk_at "P") (by walk_at "P") (by walk_at "P") (by walk_at "P")))); walk_at "G")))
local macro_rules | `(tactic| walk_at "N") => `(tactic| (walk_at "R"; repeat ((first | (refine And.intro rfl ?_) | (refine And.intro (of_decide_eq_true rfl) ?_) | (refine And.intro (by decide) ?_)); walk_at "R")))
mutual
/-- the names that a reader calls -/
def rnms : Rdr → List Str
  | .l1 .name x => [x]
  | .ps _ rs => nmss rs
  | .un _ r => rnms r
  | .bi _ _ r => rnms r
  | _ => []
def nmss : List Rdr → List Str
  | [] => []
  | r :: rs => rnms r ++ nmss rs
end
def pairD (p : Str × Rdr) : D := .tuple [.str p.1, p.2.toD]
def cntB (bk : List (Str × Rdr)) : Nat := cnts (bk.map (·.2))
structure BkOk (bk : List (Str × Rdr)) : Prop where
  l2 : bk.length ≤ 8
  nm : ∀ p ∈ bk, Nm p.1
  wf : ∀ p ∈ bk, p.2.wf
  dep : ∀ p ∈ bk, p.2.dep ≤ 8
  cnt : cntB bk ≤ 80
theorem lcc2_by {vs vs1 : List Nat} {g : GT} {tt : MT} {mi1 : MI} {g1 : GT} {tt1 : MT} {te : ME} {P : List D → Rho → Prop} {ds acc : List D} {r : Rho} (I : List D → List D → Rho → Prop) (hi : I ds acc r) (h : ∀ d ds acc r, I (d :: ds) acc r → (∀ acc' r', I ds acc' r' → lcM2 vs vs1 g tt mi1 g1 tt1 te P ds acc' r') → lcM2 vs vs1 g tt mi1 g1 tt1 te P (d :: ds) acc r) (h0 : ∀ acc r, I [] acc r → P acc r) : Lc2 vs vs1 g tt mi1 g1 tt1 te P ds acc r := by
  have go : ∀ ds acc r, I ds acc r → lcM2 vs vs1 g tt mi1 g1 tt1 te P ds acc r := by
    intro ds
    induction ds with
    | nil => intro acc r q; exact h0 acc r q
    | cons d ds ih => intro acc r q; exact h d ds acc r q fun acc' r' q' => ih acc' r' q'
  exact ⟨go ds acc r hi⟩
def bookD (bk : List (Str × Rdr)) : D := .tuple (bk.map pairD)
def parts (bk : List (Str × Rdr)) : List Rdr := pres (bk.map (·.2))
theorem parts_len (bk : List (Str × Rdr)) : (parts bk).length = cntB bk := pres_len _
structure PsOk (bk : List (Str × Rdr)) : Prop where
  dep : ∀ p ∈ bk, p.2.dep ≤ 8
  cnt : cntB bk ≤ 1000000
theorem BkOk.ps {bk : List (Str × Rdr)} (h : BkOk bk) : PsOk bk := ⟨h.dep, by have := h.cnt; omega⟩
def c_parts : Ct := fun as P => ∃ bk, as = [.val (bookD bk)] ∧ PsOk bk ∧ P (.own (.L ((parts bk).map Rdr.toD))) [.val (bookD bk)]
theorem use_parts {bk : List (Str × Rdr)} {P : R → List Ar → Prop} (h1 : PsOk bk) (h : P (.own (.L ((parts bk).map Rdr.toD))) [.val (bookD bk)]) : Cl c_parts [.val (bookD bk)] P := ⟨bk, rfl, h1, h⟩
theorem w_parts (as : List Ar) (P : R → List Ar → Prop) (h : c_parts as P) : ctOf 4 (m_parts_of (c_aw 8)) as P := by
  obtain ⟨bk, rfl, hb, hP⟩ := h
  have sl := sizeLine_eq
  have hl := parts_len bk
  have hc := hb.cnt
  walk_at "R"
  refine lcc2_by (fun ds acc ρ => ∃ dn rest : List (Str × Rdr), bk = dn ++ rest ∧ ds = rest.map pairD ∧ acc = (parts dn).map Rdr.toD ∧ ρ = [some (.val (bookD bk)), none, none, none]) ⟨[], bk, rfl, rfl, rfl, rfl⟩ ?_ ?_
  · rintro d ds acc ρ ⟨dn, rest, k1, k2, rfl, rfl⟩ ih
    cases rest with
    | nil => cases k2
    | cons q rest =>
    simp only [List.map_cons, List.cons.injEq] at k2
    obtain ⟨rfl, rfl⟩ := k2
    have hq : q ∈ bk := by rw [k1]; simp
    obtain ⟨y, r⟩ := q
    have hsum : cntB bk = cntB dn + (r.cnt + cntB rest) := by
      unfold cntB
      rw [k1, List.map_append, cnts_app, List.map_cons, cnts]
    have hpd := parts_len dn
    have hpr := pre_len r
    walk_at "R"
    refine use_aw (hb.dep _ hq) (by omega) ?_
    walk_at "R"
    refine lcc_by (fun ds acc ρ => ∃ d2 r2 : List Rdr, pre r = d2 ++ r2 ∧ ds = r2.map Rdr.toD ∧ acc = (parts dn ++ d2).map Rdr.toD ∧ ρ = [some (.val (bookD bk)), some (.val (.str y)), some (.val r.toD), none]) ⟨[], pre r, rfl, rfl, by rw [List.append_nil], rfl⟩ ?_ ?_
    · rintro d ds acc ρ ⟨d2, r2, j1, j2, rfl, rfl⟩ ih2
      cases r2 with
      | nil => cases j2
      | cons z r2 =>
      simp only [List.map_cons, List.cons.injEq] at j2
      obtain ⟨rfl, rfl⟩ := j2
      rw [j1, List.length_append] at hpr
      have hz : ((parts dn ++ d2).map Rdr.toD).length < sizeLine := by rw [List.length_map, List.length_append]; omega
      walk_at "R"
      exact ih2 _ _ ⟨d2 ++ [z], r2, by rw [j1]; simp, rfl, by simp, rfl⟩
    · rintro acc ρ ⟨d2, r2, j1, j2, rfl, rfl⟩
      have e0 : r2 = [] := by simpa using j2.symm
      subst e0
      rw [List.append_nil] at j1
      subst j1
      walk_at "R"
      refine ih _ _ ⟨dn ++ [(y, r)], rest, by rw [k1]; simp, rfl, ?_, rfl⟩
      unfold parts
      simp [pres_app, pres]
  · rintro acc ρ ⟨dn, rest, k1, k2, rfl, rfl⟩
    have e0 : rest = [] := by simpa using k2.symm
    subst e0
    rw [List.append_nil] at k1
    subst k1
    walk_at "R"
    exact hP
theorem cntB_nil : cntB [] = 0 := rfl
theorem cntB_cons (x : Str) (r : Rdr) (bk : List (Str × Rdr)) : cntB ((x, r) :: bk) = r.cnt + cntB bk := by
  unfold cntB; rw [List.map_cons, cnts]
theorem cntB_app (a b : List (Str × Rdr)) : cntB (a ++ b) = cntB a + cntB b := by
  unfold cntB; rw [List.map_append, cnts_app]
def namesOf (bk : List (Str × Rdr)) : List Str := bk.map (·.1)
def cals : List Rdr → List Str
  | [] => []
  | .l1 .name x :: l => x :: cals l
  | _ :: l => cals l
theorem cals_app : ∀ a b : List Rdr, cals (a ++ b) = cals a ++ cals b
  | [], b => rfl
  | .l1 .name x :: a, b => by simp [cals, cals_app a b]
  | .l0 w :: a, b => by simp [cals, cals_app a b]
  | .l1 .sign x :: a, b => by simp [cals, cals_app a b]
  | .l1 .but x :: a, b => by simp [cals, cals_app a b]
  | .l1 .again x :: a, b => by simp [cals, cals_app a b]
  | .ps w r :: a, b => by simp [cals, cals_app a b]
  | .un w r :: a, b => by simp [cals, cals_app a b]
  | .bi w x r :: a, b => by simp [cals, cals_app a b]
mutual
theorem cals_pre : ∀ r : Rdr, cals (pre r) = rnms r
  | .l0 w => rfl
  | .l1 w x => by cases w <;> rfl
  | .ps w rs => by rw [pre, rnms]; exact cals_pres rs
  | .un w r => by rw [pre, rnms]; exact cals_pre r
  | .bi w x r => by rw [pre, rnms]; exact cals_pre r
theorem cals_pres : ∀ rs : List Rdr, cals (pres rs) = nmss rs
  | [] => rfl
  | r :: rs => by rw [pres, cals_app, cals_pre r, cals_pres rs, nmss]
end
def callsOk (names : List Str) (r : Rdr) : Bool := (rnms r).all fun y => decide (y ∈ names)
theorem subl_of : ∀ {S l : List Nat}, S.Pairwise (· < ·) → l.Pairwise (· < ·) → (∀ x ∈ l, x ∈ S) → l.Sublist S
  | S, [], _, _, _ => List.nil_sublist _
  | [], a :: l, _, _, h => absurd (h a List.mem_cons_self) (by simp)
  | b :: S, a :: l, hs, hl, h => by
    obtain ⟨s1, s2⟩ := List.pairwise_cons.mp hs
    obtain ⟨l1, l2⟩ := List.pairwise_cons.mp hl
    by_cases e : a = b
    · subst e
      refine (subl_of s2 l2 fun x hx => ?_).cons₂ a
      rcases List.mem_cons.mp (h x (List.mem_cons_of_mem _ hx)) with q | q
      · have := l1 x hx; omega
      · exact q
    · have ha : a ∈ S := by
        rcases List.mem_cons.mp (h a List.mem_cons_self) with q | q
        · exact absurd q e
        · exact q
      have hba := s1 a ha
      refine (subl_of s2 hl fun x hx => ?_).cons b
      rcases List.mem_cons.mp (h x hx) with q | q
      · rcases List.mem_cons.mp hx with rfl | hx
        · exact absurd q e
        · have := l1 x hx; omega
      · exact q
theorem sg_inv {d : D} {n : Int} (h : isSigns n d = true) : ∃ x, d = .str x ∧ Sg0 x ∧ n ≤ x.length := by
  cases d with
  | str x =>
    have h : (decide ((x.length : Int) ≤ 94) && x.cps.toList.all inS && (!decide ((x.length : Int) < n) && rising x.cps.toList)) = true := h
    simp only [Bool.and_eq_true, decide_eq_true_eq, Bool.not_eq_true', decide_eq_false_iff_not] at h
    obtain ⟨⟨h1, h2⟩, h3, h4⟩ := h
    refine ⟨x, rfl, ⟨subl_of SIGNS_rising ((rising_iff _).mp h4) fun c hc => ?_, by omega⟩, by omega⟩
    exact of_decide_eq_true (List.all_eq_true.mp h2 c hc)
  | _ => cases h
theorem nm_inv {d : D} (h : isName d = true) : ∃ x, d = .str x ∧ Nm x := by
  cases d with
  | str x =>
    have h : (decide (1 ≤ (x.length : Int)) && (decide ((x.length : Int) ≤ 8) && x.cps.toList.all inL)) = true := h
    simp only [Bool.and_eq_true, decide_eq_true_eq] at h
    exact ⟨x, rfl, h.2.2, by omega, by omega⟩
  | _ => cases h
theorem mk_inv {d : D} (h : isMake d = true) : ∃ x, d = .str x ∧ Mk x := by
  cases d with
  | str x =>
    have h : flatIn (.str x) ((["text", "drop", "count", "number"] : List Str).map PyData.str) = true := h
    rw [flat_strsD] at h
    have h := of_decide_eq_true h
    simp only [List.mem_cons, List.not_mem_nil, or_false] at h
    exact ⟨x, rfl, h⟩
  | _ => cases h
theorem look_mem {w fs : Str} : ∀ {t : Tab}, tLook t w = some fs → (w, fs) ∈ t
  | [], h => by cases h
  | (k, v) :: t, h => by
    unfold tLook at h
    split at h
    · rename_i e
      cases h
      have e : k = w := by simpa using e
      subst e
      exact List.mem_cons_self
    · exact List.mem_cons_of_mem _ (look_mem h)
theorem toDs_inv {n : Nat} (ih : ∀ d, isForm n d = true → ∃ r : Rdr, d = r.toD ∧ r.wf ∧ r.dep ≤ n) : ∀ ds : List D, ds.all (isForm n) = true → ∃ rs : List Rdr, ds = toDs rs ∧ wfs rs ∧ deps rs ≤ n ∧ rs.length = ds.length
  | [], _ => ⟨[], rfl, trivial, Nat.zero_le _, rfl⟩
  | d :: ds, h => by
    rw [List.all_cons, Bool.and_eq_true] at h
    obtain ⟨r, rfl, h1, h2⟩ := ih d h.1
    obtain ⟨rs, rfl, h3, h4, h5⟩ := toDs_inv ih ds h.2
    exact ⟨r :: rs, rfl, ⟨h1, h3⟩, by rw [deps]; omega, by rw [List.length_cons, List.length_cons, h5]⟩
theorem ps_inv {n : Nat} {d : D} (ih : ∀ d, isForm n d = true → ∃ r : Rdr, d = r.toD ∧ r.wf ∧ r.dep ≤ n) (h : isPiece (isForm n) 112 d = true) : ∃ rs : List Rdr, d = .tuple (toDs rs) ∧ wfs rs ∧ deps rs ≤ n ∧ 2 ≤ rs.length ∧ rs.length ≤ 6 := by
  cases d with
  | tuple ds =>
    have h : (decide (2 ≤ (ds.length : Int)) && (decide ((ds.length : Int) ≤ 6) && ds.all (isForm n))) = true := h
    simp only [Bool.and_eq_true, decide_eq_true_eq] at h
    obtain ⟨rs, rfl, h3, h4, h5⟩ := toDs_inv ih ds h.2.2
    exact ⟨rs, rfl, h3, h4, by omega, by omega⟩
  | _ => exact absurd h (by simp [isPiece])
theorem one_l {ps : List D} (h : ps.length = 1) : ∃ p, ps = [p] := by
  match ps, h with
  | [p], _ => exact ⟨p, rfl⟩
theorem two_l {ps : List D} (h : ps.length = 2) : ∃ p q, ps = [p, q] := by
  match ps, h with
  | [p, q], _ => exact ⟨p, q, rfl⟩
theorem form_inv : ∀ (n : Nat) (d : D), isForm n d = true → ∃ r : Rdr, d = r.toD ∧ r.wf ∧ r.dep ≤ n
  | 0, d, h => by unfold isForm at h; cases h
  | n + 1, d, h => by
    have ih := form_inv n
    match d, h with
    | .tuple (.str w :: ps), h =>
      unfold isForm at h
      split at h
      · rename_i fs hk
        have hm := look_mem hk
        simp only [Bool.and_eq_true, decide_eq_true_eq] at h
        obtain ⟨hl, ha⟩ := h
        simp only [FORMS, List.mem_cons, List.not_mem_nil, or_false, Prod.mk.injEq] at hm
        have A0 : ∀ {w : Str} {q : W0}, w = q.s → ps.length = 0 → ∃ r : Rdr, PyData.tuple (.str w :: ps) = r.toD ∧ r.wf ∧ r.dep ≤ n + 1 := fun {w q} e l => by
          have : ps = [] := List.eq_nil_of_length_eq_zero l
          subst this e
          exact ⟨.l0 q, rfl, trivial, by rw [Rdr.dep]; omega⟩
        have AO : ∀ {w : Str} {q : WO} {p : D}, w = q.s → ps = [p] → isForm n p = true → ∃ r : Rdr, PyData.tuple (.str w :: ps) = r.toD ∧ r.wf ∧ r.dep ≤ n + 1 := fun {w q p} e l hp => by
          obtain ⟨r, rfl, h1, h2⟩ := ih p hp
          subst l e
          exact ⟨.un q r, rfl, h1, by rw [Rdr.dep]; omega⟩
        have AM : ∀ {w : Str} {q : WM} {p : D}, w = q.s → ps = [p] → isPiece (isForm n) 112 p = true → ∃ r : Rdr, PyData.tuple (.str w :: ps) = r.toD ∧ r.wf ∧ r.dep ≤ n + 1 := fun {w q p} e l hp => by
          obtain ⟨rs, rfl, h1, h2, h3, h4⟩ := ps_inv ih hp
          subst l e
          exact ⟨.ps q rs, rfl, ⟨h3, h4, h1⟩, by rw [Rdr.dep]; omega⟩
        have p1 : ∀ {c : Nat} {p : D}, fs.cps.toList = [c] → ps = [p] → isPiece (isForm n) c p = true := fun {c p} e1 e2 => by
          rw [e1, e2] at ha
          simpa using ha
        have p2 : ∀ {c c' : Nat} {p p' : D}, fs.cps.toList = [c, c'] → ps = [p, p'] → isPiece (isForm n) c p = true ∧ isPiece (isForm n) c' p' = true := fun {c c' p p'} e1 e2 => by
          rw [e1, e2] at ha
          simpa using ha
        rcases hm with ⟨rfl, rfl⟩ | ⟨rfl, rfl⟩ | ⟨rfl, rfl⟩ | ⟨rfl, rfl⟩ | ⟨rfl, rfl⟩ | ⟨rfl, rfl⟩ | ⟨rfl, rfl⟩ | ⟨rfl, rfl⟩ | ⟨rfl, rfl⟩ | ⟨rfl, rfl⟩ | ⟨rfl, rfl⟩ | ⟨rfl, rfl⟩ | ⟨rfl, rfl⟩ | ⟨rfl, rfl⟩ | ⟨rfl, rfl⟩
        · exact A0 (q := .nothing) rfl hl
        · exact A0 (q := .never) rfl hl
        · obtain ⟨p, rfl⟩ := one_l hl
          obtain ⟨x, rfl, g1, g2⟩ := sg_inv (n := 1) (p1 (c := 115) (by decide +kernel) rfl)
          exact ⟨.l1 .sign x, rfl, ⟨g1, by omega⟩, by rw [Rdr.dep]; omega⟩
        · obtain ⟨p, rfl⟩ := one_l hl
          obtain ⟨x, rfl, g1, g2⟩ := sg_inv (n := 0) (p1 (c := 98) (by decide +kernel) rfl)
          exact ⟨.l1 .but x, rfl, g1, by rw [Rdr.dep]; omega⟩
        · obtain ⟨p, rfl⟩ := one_l hl
          exact AM (q := .row) rfl rfl (p1 (c := 112) (by decide +kernel) rfl)
        · obtain ⟨p, rfl⟩ := one_l hl
          exact AM (q := .choice) rfl rfl (p1 (c := 112) (by decide +kernel) rfl)
        · obtain ⟨p, rfl⟩ := one_l hl
          exact AO (q := .many) rfl rfl (p1 (c := 114) (by decide +kernel) rfl)
        · obtain ⟨p, rfl⟩ := one_l hl
          exact AO (q := .maybe) rfl rfl (p1 (c := 114) (by decide +kernel) rfl)
        · obtain ⟨p, rfl⟩ := one_l hl
          exact AO (q := .ahead) rfl rfl (p1 (c := 114) (by decide +kernel) rfl)
        · obtain ⟨p, rfl⟩ := one_l hl
          exact AO (q := .not) rfl rfl (p1 (c := 114) (by decide +kernel) rfl)
        · obtain ⟨p, rfl⟩ := one_l hl
          obtain ⟨x, rfl, g1⟩ := nm_inv (p1 (c := 110) (by decide +kernel) rfl)
          exact ⟨.l1 .name x, rfl, g1, by rw [Rdr.dep]; omega⟩
        · obtain ⟨p, p', rfl⟩ := two_l hl
          obtain ⟨g1, g2⟩ := p2 (c := 110) (c' := 114) (by decide +kernel) rfl
          obtain ⟨x, rfl, g3⟩ := nm_inv g1
          obtain ⟨r, rfl, h1, h2⟩ := ih p' g2
          exact ⟨.bi .hold x r, rfl, ⟨g3, h1⟩, by rw [Rdr.dep]; omega⟩
        · obtain ⟨p, rfl⟩ := one_l hl
          obtain ⟨x, rfl, g1⟩ := nm_inv (p1 (c := 110) (by decide +kernel) rfl)
          exact ⟨.l1 .again x, rfl, g1, by rw [Rdr.dep]; omega⟩
        · obtain ⟨p, p', rfl⟩ := two_l hl
          obtain ⟨g1, g2⟩ := p2 (c := 110) (c' := 114) (by decide +kernel) rfl
          obtain ⟨x, rfl, g3⟩ := nm_inv g1
          obtain ⟨r, rfl, h1, h2⟩ := ih p' g2
          exact ⟨.bi .tag x r, rfl, ⟨g3, h1⟩, by rw [Rdr.dep]; omega⟩
        · obtain ⟨p, p', rfl⟩ := two_l hl
          obtain ⟨g1, g2⟩ := p2 (c := 119) (c' := 114) (by decide +kernel) rfl
          obtain ⟨x, rfl, g3⟩ := mk_inv g1
          obtain ⟨r, rfl, h1, h2⟩ := ih p' g2
          exact ⟨.bi .make x r, rfl, ⟨g3, h1⟩, by rw [Rdr.dep]; omega⟩
      · cases h
noncomputable def cb (p : Prop) : Bool := @decide p (Classical.propDecidable p)
theorem cb_t {p : Prop} (h : p) : cb p = true := by unfold cb; exact @decide_eq_true p (Classical.propDecidable p) h
theorem cb_f {p : Prop} (h : ¬ p) : cb p = false := by unfold cb; exact @decide_eq_false p (Classical.propDecidable p) h
theorem cb_e {p : Prop} (h : cb p = true) : p := by unfold cb at h; exact @of_decide_eq_true p (Classical.propDecidable p) h
mutual
theorem toD_inj : ∀ r q : Rdr, r.toD = q.toD → r = q
  | .l0 w, q, h => by
    cases q with
    | l0 v =>
      simp only [Rdr.toD, PyData.tuple.injEq, List.cons.injEq, PyData.str.injEq, and_true] at h
      cases w <;> cases v <;> first | rfl | exact absurd h (by decide)
    | l1 v y => simp [Rdr.toD] at h
    | ps v rs => simp [Rdr.toD] at h
    | un v r => simp [Rdr.toD] at h
    | bi v y r => simp [Rdr.toD] at h
  | .l1 w x, q, h => by
    cases q with
    | l0 v => simp [Rdr.toD] at h
    | l1 v y =>
      simp only [Rdr.toD, PyData.tuple.injEq, List.cons.injEq, PyData.str.injEq, and_true] at h
      obtain ⟨h1, rfl⟩ := h
      cases w <;> cases v <;> first | rfl | exact absurd h1 (by decide)
    | ps v rs => simp [Rdr.toD] at h
    | un v r => cases r <;> simp [Rdr.toD] at h
    | bi v y r => simp [Rdr.toD] at h
  | .ps w rs, q, h => by
    cases q with
    | l0 v => simp [Rdr.toD] at h
    | l1 v y => simp [Rdr.toD] at h
    | ps v qs =>
      simp only [Rdr.toD, PyData.tuple.injEq, List.cons.injEq, PyData.str.injEq, and_true] at h
      obtain ⟨h1, h2⟩ := h
      have := toDs_inj rs qs h2
      subst this
      cases w <;> cases v <;> first | rfl | exact absurd h1 (by decide)
    | un v r =>
      simp only [Rdr.toD, List.cons.injEq, PyData.tuple.injEq, PyData.str.injEq, and_true] at h
      obtain ⟨h1, h2⟩ := h
      cases w <;> cases v <;> exact absurd h1 (by decide)
    | bi v y r => simp [Rdr.toD] at h
  | .un w r, q, h => by
    cases q with
    | l0 v => simp [Rdr.toD] at h
    | l1 v y => cases r <;> simp [Rdr.toD] at h
    | ps v qs =>
      simp only [Rdr.toD, List.cons.injEq, PyData.tuple.injEq, PyData.str.injEq, and_true] at h
      obtain ⟨h1, h2⟩ := h
      cases w <;> cases v <;> exact absurd h1 (by decide)
    | un v q =>
      simp only [Rdr.toD, List.cons.injEq, PyData.tuple.injEq, PyData.str.injEq, and_true] at h
      obtain ⟨h1, h2⟩ := h
      have := toD_inj r q h2
      subst this
      cases w <;> cases v <;> first | rfl | exact absurd h1 (by decide)
    | bi v y r => simp [Rdr.toD] at h
  | .bi w x r, q, h => by
    cases q with
    | l0 v => simp [Rdr.toD] at h
    | l1 v y => simp [Rdr.toD] at h
    | ps v qs => simp [Rdr.toD] at h
    | un v q => simp [Rdr.toD] at h
    | bi v y q =>
      simp only [Rdr.toD, List.cons.injEq, PyData.tuple.injEq, PyData.str.injEq, and_true] at h
      obtain ⟨h1, rfl, h2⟩ := h
      have := toD_inj r q h2
      subst this
      cases w <;> cases v <;> first | rfl | exact absurd h1 (by decide)
theorem toDs_inj : ∀ rs qs : List Rdr, toDs rs = toDs qs → rs = qs
  | [], [], _ => rfl
  | [], q :: qs, h => by simp [toDs] at h
  | r :: rs, [], h => by simp [toDs] at h
  | r :: rs, q :: qs, h => by
    simp only [toDs, List.cons.injEq] at h
    rw [toD_inj r q h.1, toDs_inj rs qs h.2]
end
mutual
theorem cnt_wt : ∀ r : Rdr, r.cnt ≤ wt r.toD
  | .l0 w => by simp only [Rdr.cnt, Rdr.toD, wt]; omega
  | .l1 w x => by simp only [Rdr.cnt, Rdr.toD, wt]; omega
  | .ps w rs => by have := cnts_wt rs; simp only [Rdr.cnt, Rdr.toD, wt, wts]; omega
  | .un w r => by have := cnt_wt r; simp only [Rdr.cnt, Rdr.toD, wt, wts]; omega
  | .bi w x r => by have := cnt_wt r; simp only [Rdr.cnt, Rdr.toD, wt, wts]; omega
theorem cnts_wt : ∀ rs : List Rdr, cnts rs ≤ wts (toDs rs)
  | [] => Nat.zero_le _
  | r :: rs => by have := cnt_wt r; have := cnts_wt rs; simp only [cnts, toDs, wts]; omega
end
def pD (q : Str × D) : D := .tuple [.str q.1, q.2]
abbrev qn (qs : List (Str × D)) : List Str := qs.map (·.1)
/-- right names, each once -/
structure Nam (d : D) (qs : List (Str × D)) : Prop where
  eq : d = .tuple (qs.map pD)
  l1 : 1 ≤ qs.length
  l8 : qs.length ≤ 8
  nm : ∀ q ∈ qs, Nm q.1
  nd : (qn qs).Nodup
theorem pD_inj : ∀ {a b : List (Str × D)}, a.map pD = b.map pD → a = b
  | [], [], _ => rfl
  | [], _ :: _, h => by simp at h
  | _ :: _, [], h => by simp at h
  | (x, d) :: a, (y, e) :: b, h => by
    simp only [List.map_cons, List.cons.injEq, pD, PyData.tuple.injEq, PyData.str.injEq, and_true] at h
    obtain ⟨⟨rfl, rfl⟩, h⟩ := h
    rw [pD_inj h]
theorem Nam.inj {d : D} {a b : List (Str × D)} (h : Nam d a) (g : Nam d b) : a = b := by
  have := h.eq.symm.trans g.eq
  exact pD_inj (PyData.tuple.inj this)
noncomputable def namedD (d : D) : Bool := cb (∃ qs, Nam d qs)
theorem namedD_t {d : D} {qs : List (Str × D)} (h : Nam d qs) : namedD d = true := by unfold namedD; exact cb_t ⟨qs, h⟩
theorem namedD_f {d : D} (h : ∀ qs, ¬ Nam d qs) : namedD d = false := by unfold namedD; exact cb_f fun ⟨qs, q⟩ => h qs q
theorem namedD_e {d : D} (h : namedD d = true) : ∃ qs, Nam d qs := by unfold namedD at h; exact cb_e h
/-- a right reader, whose calls are among the names -/
noncomputable def rgtB (names : List Str) (d : D) : Bool := cb (∃ r : Rdr, d = r.toD ∧ r.wf ∧ r.dep ≤ 8 ∧ callsOk names r = true)
theorem rgtB_r {names : List Str} {r : Rdr} (h1 : r.wf) (h2 : r.dep ≤ 8) : rgtB names r.toD = callsOk names r := by
  unfold rgtB
  cases h : callsOk names r with
  | true => exact cb_t ⟨r, rfl, h1, h2, h⟩
  | false => exact cb_f fun ⟨q, e, _, _, g⟩ => by rw [← toD_inj _ _ e, h] at g; cases g
theorem rgtB_f {names : List Str} {d : D} (h : isForm 8 d = false) : rgtB names d = false := by
  unfold rgtB
  exact cb_f fun ⟨q, e, h1, h2, _⟩ => by rw [e, forms_wf 8 q h1, decide_eq_true h2] at h; cases h
theorem rgtB_e {names : List Str} {d : D} (h : rgtB names d = true) : ∃ r : Rdr, d = r.toD ∧ r.wf ∧ r.dep ≤ 8 ∧ callsOk names r = true := by unfold rgtB at h; exact cb_e h
structure Rgt (d : D) (bk : List (Str × Rdr)) : Prop where
  eq : d = bookD bk
  l1 : 1 ≤ bk.length
  l8 : bk.length ≤ 8
  nm : ∀ p ∈ bk, Nm p.1
  nd : (namesOf bk).Nodup
  wf : ∀ p ∈ bk, p.2.wf
  dep : ∀ p ∈ bk, p.2.dep ≤ 8
  cal : ∀ p ∈ bk, callsOk (namesOf bk) p.2 = true
def toQ (bk : List (Str × Rdr)) : List (Str × D) := bk.map fun p => (p.1, p.2.toD)
theorem toQ_book (bk : List (Str × Rdr)) : bookD bk = .tuple ((toQ bk).map pD) := by unfold bookD toQ; rw [List.map_map]; rfl
theorem toQ_names (bk : List (Str × Rdr)) : qn (toQ bk) = namesOf bk := by unfold qn toQ namesOf; rw [List.map_map]; rfl
theorem toQ_inj : ∀ {a b : List (Str × Rdr)}, toQ a = toQ b → a = b
  | [], [], _ => rfl
  | [], _ :: _, h => by simp [toQ] at h
  | _ :: _, [], h => by simp [toQ] at h
  | (x, d) :: a, (y, e) :: b, h => by
    simp only [toQ, List.map_cons, List.cons.injEq, Prod.mk.injEq] at h
    obtain ⟨⟨rfl, h1⟩, h2⟩ := h
    rw [toD_inj _ _ h1, toQ_inj (a := a) (b := b) h2]
theorem Rgt.nam {d : D} {bk : List (Str × Rdr)} (h : Rgt d bk) : Nam d (toQ bk) where
  eq := by rw [h.eq, toQ_book]
  l1 := by unfold toQ; rw [List.length_map]; exact h.l1
  l8 := by unfold toQ; rw [List.length_map]; exact h.l8
  nm := fun q hq => by obtain ⟨p, hp, rfl⟩ := List.mem_map.mp hq; exact h.nm p hp
  nd := by rw [toQ_names]; exact h.nd
theorem Rgt.rgt {d : D} {bk : List (Str × Rdr)} (h : Rgt d bk) : ∀ q ∈ toQ bk, rgtB (qn (toQ bk)) q.2 = true := fun q hq => by
  obtain ⟨p, hp, rfl⟩ := List.mem_map.mp hq
  rw [toQ_names, rgtB_r (h.wf p hp) (h.dep p hp)]
  exact h.cal p hp
theorem rgt_of {names : List Str} : ∀ {qs : List (Str × D)}, (∀ q ∈ qs, rgtB names q.2 = true) → ∃ bk : List (Str × Rdr), qs = toQ bk ∧ ∀ p ∈ bk, p.2.wf ∧ p.2.dep ≤ 8 ∧ callsOk names p.2 = true
  | [], _ => ⟨[], rfl, fun p h => (nomatch h)⟩
  | (y, d) :: qs, h => by
    obtain ⟨r, e, h1, h2, h3⟩ := rgtB_e (h _ List.mem_cons_self)
    obtain ⟨bk, e2, h4⟩ := rgt_of fun q hq => h q (List.mem_cons_of_mem _ hq)
    refine ⟨(y, r) :: bk, ?_, fun p hp => ?_⟩
    · have e : d = r.toD := e
      rw [e, e2]; rfl
    · rcases List.mem_cons.mp hp with rfl | hp
      · exact ⟨h1, h2, h3⟩
      · exact h4 p hp
theorem Nam.rgt {d : D} {qs : List (Str × D)} (h : Nam d qs) (g : ∀ q ∈ qs, rgtB (qn qs) q.2 = true) : ∃ bk, qs = toQ bk ∧ Rgt d bk := by
  obtain ⟨bk, rfl, k⟩ := rgt_of g
  have hl : (toQ bk).length = bk.length := List.length_map ..
  refine ⟨bk, rfl, by rw [h.eq, toQ_book], by rw [← hl]; exact h.l1, by rw [← hl]; exact h.l8, fun p hp => h.nm (p.1, p.2.toD) (List.mem_map_of_mem (f := fun p : Str × Rdr => (p.1, p.2.toD)) hp), by rw [← toQ_names]; exact h.nd, fun p hp => (k p hp).1, fun p hp => (k p hp).2.1, fun p hp => by rw [← toQ_names]; exact (k p hp).2.2⟩
/-- a right book -/
noncomputable def isB (d : D) : Bool := cb (∃ bk, Rgt d bk ∧ cntB bk ≤ 80)
theorem isB_n {d : D} (h : namedD d = false) : isB d = false := by
  unfold isB
  exact cb_f fun ⟨bk, r, _⟩ => by rw [namedD_t r.nam] at h; cases h
theorem isB_w {d : D} {qs : List (Str × D)} (h : Nam d qs) {q : Str × D} (hq : q ∈ qs) (g : rgtB (qn qs) q.2 = false) : isB d = false := by
  unfold isB
  refine cb_f fun ⟨bk, r, _⟩ => ?_
  have e := h.inj r.nam
  subst e
  rw [r.rgt q hq] at g; cases g
theorem isB_c {d : D} {bk : List (Str × Rdr)} (h : Rgt d bk) : isB d = decide (cntB bk ≤ 80) := by
  unfold isB
  by_cases c : cntB bk ≤ 80
  · rw [decide_eq_true c]; exact cb_t ⟨bk, h, c⟩
  · rw [decide_eq_false c]
    exact cb_f fun ⟨bk', r, c'⟩ => by
      have e := toQ_inj (h.nam.inj r.nam)
      subst e
      exact c c'
end L04
namespace L04
open PySem L2 PyProof.Rows DL
local macro_rules | `(tactic| walk_at "G") => `(tactic| ((conv => whnf); try dsimp only [DL.MB.toD, DL.cellOf]))
local macro_rules | `(tactic| walk_at "O") => `(tactic| first | assumption | omega | (refine ⟨?_, ?_⟩ <;> first | assumption | omega) | (simp only [DL.app_len]; omega) | (simp only [List.length_append, List.length_cons, List.length_nil, List.length_map]; omega))
local macro_rules | `(tactic| walk_at "P") => `(tactic| first | omega | (simp only [List.length_map]; omega))
local macro_rules | `(tactic| walk_at "R") => `(tactic| (walk_at "G"; repeat ((first | (apply DL.Rq.mk; (· walk_at "O")) | (apply DL.on_i; (· assumption)) | (apply DL.rqB.mk; (· exact DL.okR_of (by walk_at "P") (by walk_at "P"))) | (apply DL.rqB.mk; (· exact DL.okR2_of (by walk_at "P") (by walk_at "P") (by walk_at "P") (by walk_at "P")))); walk_at "G")))
local macro_rules | `(tactic| walk_at "N") => `(tactic| (walk_at "R"; repeat ((first | (refine And.intro rfl ?_) | (refine And.intro (of_decide_eq_true rfl) ?_) | (refine And.intro (by decide) ?_)); walk_at "R")))
def isPair : D → Bool
  | .tuple [a, _] => isName a
  | _ => false
theorem pairs_of : ∀ {ds : List D}, ds.all isPair = true → ∃ qs : List (Str × D), ds = qs.map pD ∧ ∀ q ∈ qs, Nm q.1
  | [], _ => ⟨[], rfl, fun q h => (nomatch h)⟩
  | d :: ds, h => by
    rw [List.all_cons, Bool.and_eq_true] at h
    obtain ⟨qs, rfl, h2⟩ := pairs_of h.2
    match d, h.1 with
    | .tuple [a, e], h1 =>
      obtain ⟨x, rfl, nx⟩ := nm_inv (d := a) h1
      exact ⟨(x, e) :: qs, rfl, fun q hq => by
        rcases List.mem_cons.mp hq with rfl | hq
        · exact nx
        · exact h2 q hq⟩
theorem isPair_pD {q : Str × D} (h : Nm q.1) : isPair (pD q) = true := h.is
theorem Nam.all {d : D} {qs : List (Str × D)} (h : Nam d qs) {ds : List D} (e : d = .tuple ds) : ds.all isPair = true := by
  have : ds = qs.map pD := PyData.tuple.inj (e.symm.trans h.eq)
  rw [this, List.all_eq_true]
  intro x hx
  obtain ⟨q, hq, rfl⟩ := List.mem_map.mp hx
  exact isPair_pD (h.nm q hq)
def c_named : Ct := fun as P => ∃ d : D, as = [.val d] ∧ Fit d ∧ P (.val (.bool (namedD d))) [.val d]
theorem use_named {d : D} {P : R → List Ar → Prop} (h : Fit d) (q : P (.val (.bool (namedD d))) [.val d]) : Cl c_named [.val d] P := ⟨d, rfl, h, q⟩
theorem w_named (as : List Ar) (P : R → List Ar → Prop) (h : c_named as P) : ctOf 4 (m_are_named c_name) as P := by
  obtain ⟨d, rfl, hF, hP⟩ := h
  have sl := sizeLine_eq
  have no : (∀ ds, d ≠ .tuple ds) → namedD d = false := fun q => namedD_f fun qs g => q _ g.eq
  cases d with
  | tuple ds =>
    have hlen : ∀ qs, Nam (.tuple ds) qs → ds.length = qs.length := fun qs g => by
      have := PyData.tuple.inj g.eq
      rw [this, List.length_map]
    have hb := blsOf_map isPair ds
    have hz := hF.len
    walk_at "R"
    apply br_d <;> intro hd
    · have h1 := hd
      walk_at "R"
      apply br_nd <;> intro hd
      · have h8 := hd
        rw [namedD_f fun qs g => by have := hlen qs g; have := g.l8; omega] at hP
        walk_at "R"
        exact hP
      · have h8 := hd
        walk_at "R"
        refine lc_id (as := ds) (fun d => .bool (isPair d)) (fun d hm ds' acc ha hk => ?_) (by omega) ?_
        · have hFd := hF.tup d hm
          cases d with
          | tuple es =>
            walk_at "R"
            apply br_d <;> intro hd
            · have hl2 : es.length = 2 := by omega
              match es, hl2, hk, hFd with
              | [a, b], _, hk, hFd =>
                have ha0 : atI [a, b] 0 = some a := at_0 _ _
                walk_at "R"
                refine use_name (hFd.tup a List.mem_cons_self) ?_
                walk_at "R"
                exact hk
            · have e : isPair (.tuple es) = false := by
                match es, hd with
                | [], _ => rfl
                | [_], _ => rfl
                | [_, _], hd => exact absurd rfl hd
                | _ :: _ :: _ :: _, _ => rfl
              rw [e] at hk
              walk_at "R"
              rw [decide_eq_false hd]
              exact hk
          | _ => walk_at "R"; exact hk
        · walk_at "R"
          cases hall : ds.all isPair with
          | false =>
            rw [namedD_f fun qs g => by rw [g.all rfl] at hall; cases hall] at hP
            rw [all_map, hall]
            walk_at "R"
            exact hP
          | true =>
            rw [all_map, hall]
            walk_at "R"
            obtain ⟨qs, rfl, hnm⟩ := pairs_of hall
            rw [List.length_map] at h1 h8 hz
            refine sc_list pD (fun p => (.inr p.1 : Key)) ?_ (by omega) ?_
            · intro p hp ds acc hacc hnext
              obtain ⟨y, r⟩ := p
              walk_at "R"
              exact hnext
            · have h4 : (qs.map fun p => (.inr p.1 : Key)).length ≤ 4000 := by rw [List.length_map]; omega
              walk_at "R"
              have e : decide (((ddp (qs.map fun p => (.inr p.1 : Key))).length : Int) = ((qs.map pD).length : Int)) = namedD (.tuple (qs.map pD)) := by
                have ek : (qs.map fun p => (.inr p.1 : Key)) = (qn qs).map Sum.inr := by unfold qn; rw [List.map_map]; rfl
                have ef := ddp_full (qs.map fun p => (.inr p.1 : Key))
                by_cases hnd : (qn qs).Nodup
                · rw [namedD_t ⟨rfl, by omega, by omega, hnm, hnd⟩]
                  refine decide_eq_true ?_
                  have : (qs.map fun p => (.inr p.1 : Key)).Nodup := by
                    rw [ek]
                    exact List.Pairwise.map _ (fun a b h q => h (Sum.inr.inj q)) hnd
                  have := ef.mpr this
                  rw [this, List.length_map, List.length_map]
                · rw [namedD_f fun qs' g => by
                    have := pD_inj (PyData.tuple.inj g.eq)
                    subst this
                    exact hnd g.nd]
                  refine decide_eq_false fun q => hnd ?_
                  have h3 : (ddp (qs.map fun p => (.inr p.1 : Key))).length = (qs.map fun p => (.inr p.1 : Key)).length := by
                    rw [List.length_map] at q ⊢; omega
                  have := ef.mp h3
                  rw [ek] at this
                  exact (List.pairwise_map.mp this).imp fun h e => h (by rw [e])
              rw [e]
              exact hP
    · rw [namedD_f fun qs g => by have := hlen qs g; have := g.l1; omega] at hP
      walk_at "R"
      exact hP
  | _ =>
    rw [no (fun ds e => by cases e)] at hP
    walk_at "R"
    exact hP
end L04
namespace L04
open PySem L2 PyProof.Rows DL
local macro_rules | `(tactic| walk_at "G") => `(tactic| ((conv => whnf); try dsimp only [DL.MB.toD, DL.cellOf]))
local macro_rules | `(tactic| walk_at "O") => `(tactic| first | assumption | omega | (refine ⟨?_, ?_⟩ <;> first | assumption | omega) | (simp only [DL.app_len]; omega) | (simp only [List.length_append, List.length_cons, List.length_nil, List.length_map]; omega))
local macro_rules | `(tactic| walk_at "P") => `(tactic| first | omega | (simp only [List.length_map]; omega))
local macro_rules | `(tactic| walk_at "R") => `(tactic| (walk_at "G"; repeat ((first | (apply DL.Rq.mk; (· walk_at "O")) | (apply DL.on_i; (· assumption)) | (apply DL.rqB.mk; (· exact DL.okR_of (by walk_at "P") (by walk_at "P"))) | (apply DL.rqB.mk; (· exact DL.okR2_of (by walk_at "P") (by walk_at "P") (by walk_at "P") (by walk_at "P")))); walk_at "G")))
local macro_rules | `(tactic| walk_at "N") => `(tactic| (walk_at "R"; repeat ((first | (refine And.intro rfl ?_) | (refine And.intro (of_decide_eq_true rfl) ?_) | (refine And.intro (by decide) ?_)); walk_at "R")))
theorem cals_len : ∀ l : List Rdr, (cals l).length ≤ l.length := by
  intro l
  induction l with
  | nil => exact Nat.le_refl _
  | cons a l ih =>
    have e := cals_app [a] l
    rw [List.singleton_append] at e
    rw [e, List.length_append, List.length_cons]
    have : (cals [a]).length ≤ 1 := by
      cases a with
      | l1 w x => cases w <;> simp [cals]
      | _ => simp [cals]
    omega
theorem blsOf_strs (names : List Str) : ∀ l : List Str, blsOf (l.map fun y => PyData.bool (decide (y ∈ names))) = some (l.map fun y => decide (y ∈ names)) := fun l => blsOf_map _ l
def c_right : Ct := fun as P => ∃ (names : List Str) (d : D), as = [.box (.L (names.map PyData.str)), .val d] ∧ Fit d ∧ P (.val (.bool (rgtB names d))) [.box (.L (names.map PyData.str)), .val d]
theorem use_right {names : List Str} {d : D} {P : R → List Ar → Prop} (h1 : Fit d) (h : P (.val (.bool (rgtB names d))) [.box (.L (names.map PyData.str)), .val d]) : Cl c_right [.box (.L (names.map PyData.str)), .val d] P := ⟨names, d, rfl, h1, h⟩
theorem w_right (as : List Ar) (P : R → List Ar → Prop) (h : c_right as P) : ctOf 3 (m_is_right c_reader (c_aw 8)) as P := by
  obtain ⟨names, d, rfl, hF, hP⟩ := h
  have sl := sizeLine_eq
  walk_at "R"
  refine use_reader hF ?_
  cases hf : isForm 8 d with
  | false =>
    rw [rgtB_f hf] at hP
    walk_at "R"
    exact hP
  | true =>
  obtain ⟨r, rfl, hw, hd⟩ := form_inv 8 d hf
  rw [rgtB_r hw hd] at hP
  have hc := Nat.le_trans (cnt_wt r) hF.2.1
  have hpl := pre_len r
  have hff := flatD_strs names
  walk_at "R"
  refine use_aw hd (by omega) ?_
  walk_at "R"
  refine lcc_by (fun ds acc ρ => ∃ dn rest : List Rdr, pre r = dn ++ rest ∧ ds = rest.map Rdr.toD ∧ acc = (cals dn).map (fun y => PyData.bool (decide (y ∈ names))) ∧ ρ = [some (.box true (.L (names.map PyData.str))), some (.val r.toD), none]) ⟨[], pre r, rfl, rfl, rfl, rfl⟩ ?_ ?_
  · rintro d ds acc ρ ⟨dn, rest, k1, k2, rfl, rfl⟩ ih
    cases rest with
    | nil => cases k2
    | cons q rest =>
    simp only [List.map_cons, List.cons.injEq] at k2
    obtain ⟨rfl, rfl⟩ := k2
    have nx : ∀ l, cals [q] = l → _ := fun l e => ih ((cals dn ++ l).map fun y => PyData.bool (decide (y ∈ names))) [some (.box true (.L (names.map PyData.str))), some (.val r.toD), none] ⟨dn ++ [q], rest, by rw [k1]; simp, rfl, by rw [cals_app, e], rfl⟩
    have cl1 := cals_len dn
    have hdl : dn.length + (rest.length + 1) = (pre r).length := by rw [k1]; simp
    have hl' : ((cals dn).map fun y => PyData.bool (decide (y ∈ names))).length < sizeLine := by rw [List.length_map]; omega
    have stay : cals [q] = [] → _ := fun e => nx [] e
    rw [List.append_nil] at stay
    cases q with
    | l0 w => cases w <;> (walk_at "R"; exact stay rfl)
    | l1 w x =>
      cases w
      · walk_at "R"; exact stay rfl
      · walk_at "R"; exact stay rfl
      · have nx1 := nx [x] rfl
        rw [List.map_append] at nx1
        walk_at "R"
        apply rqB.mk
        · rw [hff]; rfl
        rw [flat_strsD, Bool.false_xor]
        walk_at "R"
        exact nx1
      · walk_at "R"; exact stay rfl
    | ps w rs =>
      have e : (Rdr.ps w rs).toD = .tuple [.str w.s, .tuple (rs.map Rdr.toD)] := by rw [Rdr.toD, toDs_map]
      rw [e]
      cases w <;> (walk_at "R"; exact stay rfl)
    | un w r => cases w <;> (walk_at "R"; exact stay rfl)
    | bi w x r => cases w <;> (walk_at "R"; exact stay rfl)
  · rintro acc ρ ⟨dn, rest, k1, k2, rfl, rfl⟩
    have e0 : rest = [] := by simpa using k2.symm
    subst e0
    rw [List.append_nil] at k1
    subst k1
    have hbl := blsOf_strs names (cals (pre r))
    walk_at "R"
    have e : ((cals (pre r)).map fun y => decide (y ∈ names)).all id = callsOk names r := by
      rw [cals_pre, List.all_map]; rfl
    rw [e]
    exact hP
noncomputable def wrongs (qs : List (Str × D)) : List (Str × D) := qs.filter fun q => !rgtB (qn qs) q.2
noncomputable def wrongD (qs : List (Str × D)) : D := match wrongs qs with
  | [] => .none
  | q :: _ => .str q.1
def c_wrong : Ct := fun as P => ∃ (d : D) (qs : List (Str × D)), as = [.val d] ∧ Nam d qs ∧ Fit d ∧ P (.val (wrongD qs)) [.val d]
theorem use_wrong {d : D} {qs : List (Str × D)} {P : R → List Ar → Prop} (h1 : Nam d qs) (h2 : Fit d) (h : P (.val (wrongD qs)) [.val d]) : Cl c_wrong [.val d] P := ⟨d, qs, rfl, h1, h2, h⟩
theorem w_wrong (as : List Ar) (P : R → List Ar → Prop) (h : c_wrong as P) : ctOf 5 (m_first_wrong c_right) as P := by
  obtain ⟨d, qs, rfl, hN, hF, hP⟩ := h
  have e := hN.eq
  subst e
  have sl := sizeLine_eq
  have hl2 := hN.l8
  walk_at "R"
  refine lc_list pD (fun p => PyData.str p.1) ?_ (by omega) ?_
  · intro p hp ds acc hacc hnext
    obtain ⟨y, r⟩ := p
    walk_at "R"
    exact hnext
  have en : (qs.map fun p => PyData.str p.1) = (qn qs).map PyData.str := by unfold qn; rw [List.map_map]; rfl
  rw [en]
  walk_at "R"
  refine lc_filt pD (fun p => PyData.str p.1) (fun p => !rgtB (qn qs) p.2) ?_ (by omega) ?_
  · intro p hp ds acc hacc h1 h2
    have g1 : Fit p.2 := (hF.tup (pD p) (List.mem_map_of_mem hp)).tup p.2 (by simp)
    obtain ⟨y, r⟩ := p
    walk_at "R"
    refine use_right g1 ?_
    walk_at "G"
    cases hq : rgtB (qn qs) r with
    | true =>
      walk_at "R"
      exact h2 (by show (!rgtB (qn qs) r) = false; rw [hq]; rfl)
    | false =>
      walk_at "R"
      exact h1 (by show (!rgtB (qn qs) r) = true; rw [hq]; rfl)
  · have ew : ((qs.filter fun p => !rgtB (qn qs) p.2).map fun p => PyData.str p.1) = (qn (wrongs qs)).map PyData.str := by unfold qn wrongs; rw [List.map_map]; rfl
    rw [ew]
    walk_at "R"
    unfold wrongD at hP
    cases hw : wrongs qs with
    | nil =>
      rw [hw] at hP
      walk_at "R"
      exact hP
    | cons p l =>
      rw [hw] at hP
      have h0 : atI ((qn (p :: l)).map PyData.str) 0 = some (.str p.1) := at_0 _ _
      walk_at "R"
      exact hP
theorem wrong_nil {d : D} {qs : List (Str × D)} (h : Nam d qs) (e : wrongs qs = []) : ∃ bk, qs = toQ bk ∧ Rgt d bk := h.rgt fun q hq => by
  have := List.filter_eq_nil_iff.mp e q hq
  simpa using this
theorem wrong_one {qs : List (Str × D)} {q : Str × D} {l : List (Str × D)} (e : wrongs qs = q :: l) : q ∈ qs ∧ rgtB (qn qs) q.2 = false := by
  have : q ∈ wrongs qs := by rw [e]; exact List.mem_cons_self
  obtain ⟨h1, h2⟩ := List.mem_filter.mp this
  exact ⟨h1, by simpa using h2⟩
theorem Rgt.cnt {d : D} {bk : List (Str × Rdr)} (h : Rgt d bk) (hF : Fit d) : cntB bk ≤ 1000000 := by
  have go : ∀ bk : List (Str × Rdr), cntB bk ≤ wts (bk.map pairD) := by
    intro bk
    induction bk with
    | nil => exact Nat.zero_le _
    | cons p bk ih =>
      obtain ⟨y, r⟩ := p
      have := cnt_wt r
      rw [cntB_cons, List.map_cons, wts]
      simp only [pairD, wt, wts]
      omega
  have h1 := hF.2.1
  rw [h.eq] at h1
  have h2 : wts (bk.map pairD) + 4 ≤ 1000000 := h1
  have := go bk
  omega
theorem Rgt.ps {d : D} {bk : List (Str × Rdr)} (h : Rgt d bk) (hF : Fit d) : PsOk bk := ⟨h.dep, h.cnt hF⟩
def c_isb : Ct := fun as P => ∃ d : D, as = [.val d] ∧ Fit d ∧ P (.val (.bool (isB d))) [.val d]
theorem use_isb {d : D} {P : R → List Ar → Prop} (h : Fit d) (q : P (.val (.bool (isB d))) [.val d]) : Cl c_isb [.val d] P := ⟨d, rfl, h, q⟩
theorem w_isb (as : List Ar) (P : R → List Ar → Prop) (h : c_isb as P) : ctOf 1 (m_is_book c_named c_wrong c_parts) as P := by
  obtain ⟨d, rfl, hF, hP⟩ := h
  have sl := sizeLine_eq
  walk_at "R"
  refine use_named hF ?_
  walk_at "G"
  cases hn : namedD d with
  | false =>
    rw [isB_n hn] at hP
    walk_at "R"
    exact hP
  | true =>
    obtain ⟨qs, hN⟩ := namedD_e hn
    walk_at "R"
    refine use_wrong hN hF ?_
    unfold wrongD
    cases hw : wrongs qs with
    | cons p l =>
      obtain ⟨h1, h2⟩ := wrong_one hw
      rw [isB_w hN h1 h2] at hP
      walk_at "R"
      exact hP
    | nil =>
      obtain ⟨bk, rfl, hR⟩ := wrong_nil hN hw
      rw [isB_c hR] at hP
      have e := hR.eq
      subst e
      have hl := parts_len bk
      walk_at "R"
      refine use_parts (hR.ps hF) ?_
      walk_at "R"
      have ee : decide ((((parts bk).map Rdr.toD).length : Int) ≤ 80) = decide (cntB bk ≤ 80) := by
        rw [List.length_map, hl]
        by_cases c : cntB bk ≤ 80
        · rw [decide_eq_true c, decide_eq_true (by omega)]
        · rw [decide_eq_false c, decide_eq_false (by omega)]
      rw [ee]
      exact hP
end L04
namespace L04
open PySem L2 PyProof.Rows DL
local macro_rules | `(tactic| walk_at "G") => `(tactic| ((conv => whnf); try dsimp only [DL.MB.toD, DL.cellOf]))
local macro_rules | `(tactic| walk_at "O") => `(tactic| first | assumption | omega | (refine ⟨?_, ?_⟩ <;> first | assumption | omega) | (simp only [DL.app_len]; omega) | (simp only [List.length_append, List.length_cons, List.length_nil, List.length_map]; omega))
local macro_rules | `(tactic| walk_at "P") => `(tactic| first | omega | (simp only [List.length_map]; omega))
local macro_rules | `(tactic| walk_at "R") => `(tactic| (walk_at "G"; repeat ((first | (apply DL.Rq.mk; (· walk_at "O")) | (apply DL.on_i; (· assumption)) | (apply DL.rqB.mk; (· exact DL.okR_of (by walk_at "P") (by walk_at "P"))) | (apply DL.rqB.mk; (· exact DL.okR2_of (by walk_at "P") (by walk_at "P") (by walk_at "P") (by walk_at "P")))); walk_at "G")))
local macro_rules | `(tactic| walk_at "N") => `(tactic| (walk_at "R"; repeat ((first | (refine And.intro rfl ?_) | (refine And.intro (of_decide_eq_true rfl) ?_) | (refine And.intro (by decide) ?_)); walk_at "R")))
theorem filt_emp {α : Type} (p : α → Bool) (l : List α) : (l.filter p).isEmpty = !(l.any p) := by
  induction l with
  | nil => rfl
  | cons a l ih =>
    rw [List.any_cons]
    cases h : p a with
    | true => rw [List.filter_cons_of_pos h]; rfl
    | false => rw [List.filter_cons_of_neg (by simp [h]), ih]; rfl
theorem w_lparts (n : Nat) (as : List Ar) (P : R → List Ar → Prop) (h : c_aw (n + 1) as P) : ctOf 3 (m__law_parts c_within (c_aw n)) as P := by
  obtain ⟨r, rfl, hd, hc, hP⟩ := h
  have sl := sizeLine_eq
  have kd := kids_dep hd
  have hl := pre_len r
  rw [pre_kids, List.length_cons] at hl
  rw [pre_kids] at hP
  walk_at "R"
  refine use_within ?_
  walk_at "R"
  refine lp_by (fun ds ρ => ∃ (dn rest : List Rdr) (s2 : Option D), kids r = dn ++ rest ∧ ds = rest.map Rdr.toD ∧ ρ = [some (.val r.toD), some (.box false (.L ((r :: pres dn).map Rdr.toD))), s2.map Ce.val]) ?_ ?_ ?_
  · exact ⟨[], kids r, none, rfl, rfl, rfl⟩
  · rintro d ds ρ ⟨dn, rest, s2, k1, k2, rfl⟩ ih
    cases rest with
    | nil => cases k2
    | cons q rest =>
    simp only [List.map_cons, List.cons.injEq] at k2
    obtain ⟨rfl, rfl⟩ := k2
    have hq : q ∈ kids r := by rw [k1]; simp
    have hqc := kids_cnt q hq
    rw [k1, pres_app, List.length_append, pres, List.length_append] at hl
    have l1 : ((r :: pres dn).map Rdr.toD).length + ((pre q).map Rdr.toD).length ≤ sizeLine := by rw [List.length_map, List.length_map, List.length_cons]; omega
    walk_at "R"
    refine use_aw (kd q hq) (by omega) ?_
    walk_at "R"
    refine ih _ ⟨dn ++ [q], rest, some q.toD, by rw [k1]; simp, rfl, ?_⟩
    rw [pres_app]
    simp [pres]
  · rintro ρ ⟨dn, rest, s2, k1, k2, rfl⟩
    have e0 : rest = [] := by simpa using k2.symm
    subst e0
    rw [List.append_nil] at k1
    rw [k1] at hP
    walk_at "R"
    exact hP
def is2 : D → Bool
  | .tuple [_, _] => true
  | _ => false
theorem twos_of : ∀ {ds : List D}, ds.all is2 = true → ∃ ps : List (D × D), ds = ps.map fun p => PyData.tuple [p.1, p.2]
  | [], _ => ⟨[], rfl⟩
  | d :: ds, h => by
    rw [List.all_cons, Bool.and_eq_true] at h
    obtain ⟨ps, rfl⟩ := twos_of h.2
    match d, h.1 with
    | .tuple [a, e], _ => exact ⟨(a, e) :: ps, rfl⟩
theorem Nam.twos {d : D} {qs : List (Str × D)} (h : Nam d qs) {ds : List D} (e : d = .tuple ds) : ds.all is2 = true := by
  have : ds = qs.map pD := PyData.tuple.inj (e.symm.trans h.eq)
  rw [this, List.all_eq_true]
  intro x hx
  obtain ⟨q, hq, rfl⟩ := List.mem_map.mp hx
  rfl
theorem names_of : ∀ {ps : List (D × D)}, (ps.map (·.1)).all isName = true → ∃ qs : List (Str × D), ps = qs.map (fun q => (PyData.str q.1, q.2)) ∧ ∀ q ∈ qs, Nm q.1
  | [], _ => ⟨[], rfl, fun q h => (nomatch h)⟩
  | (a, e) :: ps, h => by
    rw [List.map_cons, List.all_cons, Bool.and_eq_true] at h
    obtain ⟨qs, rfl, h2⟩ := names_of h.2
    obtain ⟨x, rfl, nx⟩ := nm_inv (d := a) h.1
    exact ⟨(x, e) :: qs, rfl, fun q hq => by
      rcases List.mem_cons.mp hq with rfl | hq
      · exact nx
      · exact h2 q hq⟩
def badCall (names : List Str) : Rdr → Bool
  | .l1 .name x => !decide (x ∈ names)
  | _ => false
theorem bad_emp (names : List Str) : ∀ l : List Rdr, (l.filter (badCall names)).isEmpty = (cals l).all fun y => decide (y ∈ names)
  | [] => rfl
  | .l1 .name x :: l => by
    have ih := bad_emp names l
    rw [show cals (.l1 .name x :: l) = x :: cals l from rfl, List.all_cons, ← ih]
    by_cases h : x ∈ names
    · rw [List.filter_cons_of_neg (by simp [badCall, h]), decide_eq_true h, Bool.true_and]
    · rw [List.filter_cons_of_pos (by simp [badCall, h]), decide_eq_false h]; rfl
  | .l0 w :: l => by rw [List.filter_cons_of_neg (by simp [badCall])]; exact bad_emp names l
  | .l1 .sign x :: l => by rw [List.filter_cons_of_neg (by simp [badCall])]; exact bad_emp names l
  | .l1 .but x :: l => by rw [List.filter_cons_of_neg (by simp [badCall])]; exact bad_emp names l
  | .l1 .again x :: l => by rw [List.filter_cons_of_neg (by simp [badCall])]; exact bad_emp names l
  | .ps w r :: l => by rw [List.filter_cons_of_neg (by simp [badCall])]; exact bad_emp names l
  | .un w r :: l => by rw [List.filter_cons_of_neg (by simp [badCall])]; exact bad_emp names l
  | .bi w x r :: l => by rw [List.filter_cons_of_neg (by simp [badCall])]; exact bad_emp names l
theorem fst_eq : ∀ {ps : List (D × D)} {qs : List (Str × D)}, (ps.map fun p => PyData.tuple [p.1, p.2]) = qs.map pD → ps.map (·.1) = qs.map fun q => PyData.str q.1
  | [], [], _ => rfl
  | [], _ :: _, h => by simp at h
  | _ :: _, [], h => by simp at h
  | (a, e) :: ps, (x, d) :: qs, h => by
    simp only [List.map_cons, List.cons.injEq, pD, PyData.tuple.injEq, and_true] at h
    rw [List.map_cons, List.map_cons, fst_eq h.2, h.1.1]
theorem forms_of : ∀ {qs : List (Str × D)}, (qs.all fun q => isForm 8 q.2) = true → ∃ bk : List (Str × Rdr), qs = toQ bk ∧ (∀ p ∈ bk, p.2.wf) ∧ ∀ p ∈ bk, p.2.dep ≤ 8
  | [], _ => ⟨[], rfl, fun p h => (nomatch h), fun p h => (nomatch h)⟩
  | (y, d) :: qs, h => by
    rw [List.all_cons, Bool.and_eq_true] at h
    obtain ⟨r, rfl, h1, h2⟩ := form_inv 8 d h.1
    obtain ⟨bk, rfl, h3, h4⟩ := forms_of h.2
    refine ⟨(y, r) :: bk, rfl, fun p hp => ?_, fun p hp => ?_⟩
    · rcases List.mem_cons.mp hp with rfl | hp
      · exact h1
      · exact h3 p hp
    · rcases List.mem_cons.mp hp with rfl | hp
      · exact h2
      · exact h4 p hp
theorem cntB_fit {bk : List (Str × Rdr)} (hF : Fit (.tuple (bk.map pairD))) : cntB bk ≤ 1000000 := by
  have go : ∀ bk : List (Str × Rdr), cntB bk ≤ wts (bk.map pairD) := by
    intro bk
    induction bk with
    | nil => exact Nat.zero_le _
    | cons p bk ih =>
      obtain ⟨y, r⟩ := p
      have := cnt_wt r
      rw [cntB_cons, List.map_cons, wts]
      simp only [pairD, wt, wts]
      omega
  have h2 : wts (bk.map pairD) + 4 ≤ 1000000 := hF.2.1
  have := go bk
  omega
theorem ks_strs : ∀ l : List Str, ksOf (l.map PyData.str) = some (l.map Sum.inr)
  | [] => rfl
  | x :: l => by
    rw [List.map_cons, ksOf, ks_strs l]; rfl
theorem isB_l {ds : List D} (h : ¬ (1 ≤ ds.length ∧ ds.length ≤ 8)) : isB (.tuple ds) = false := isB_n (namedD_f fun qs g => by
  have e := PyData.tuple.inj g.eq
  have := g.l1; have := g.l8
  rw [e, List.length_map] at h
  exact h ⟨by omega, by omega⟩)
theorem w_lisb (as : List Ar) (P : R → List Ar → Prop) (h : c_isb as P) : ctOf 8 (m__law_is_book c_name (c_formed 9) (c_aw 8)) as P := by
  obtain ⟨d, rfl, hF, hP⟩ := h
  have sl := sizeLine_eq
  have no : (∀ ds, d ≠ .tuple ds) → isB d = false := fun q => isB_n (namedD_f fun qs g => q _ g.eq)
  cases d with
  | tuple ds =>
    have hz := hF.len
    walk_at "R"
    apply br_d <;> intro hd
    · have h1 := hd
      walk_at "R"
      apply br_nd <;> intro hd
      · have h8 := hd
        rw [isB_l (by omega)] at hP
        walk_at "R"
        exact hP
      · have h8 := hd
        walk_at "R"
        refine lcc_by (fun ds' acc ρ => ∃ dn : List D, ds = dn ++ ds' ∧ acc = dn.filter (fun d => !is2 d) ∧ ρ = [some (.val (.tuple ds)), none, none, none, none, none, none, none]) ⟨[], rfl, rfl, rfl⟩ ?_ ?_
        · rintro d ds' acc ρ ⟨dn, k1, rfl, rfl⟩ ih
          have hacc : (dn.filter fun d => !is2 d).length < sizeLine := by
            have := List.length_filter_le (fun d => !is2 d) dn
            have : ds.length = dn.length + (ds'.length + 1) := by rw [k1]; simp
            omega
          have nx : ∀ acc', acc' = (dn ++ [d]).filter (fun d => !is2 d) → _ := fun acc' e => ih acc' _ ⟨dn ++ [d], by rw [k1]; simp, e, rfl⟩
          rw [List.filter_append] at nx
          cases d with
          | tuple es =>
            walk_at "R"
            apply br_nd <;> intro hd
            · have e : is2 (.tuple es) = false := by
                match es, hd with
                | [_, _], hd => exact absurd rfl hd
                | [], hd => rfl
                | [_], hd => rfl
                | _ :: _ :: _ :: _, hd => rfl
              walk_at "R"
              exact nx _ (by rw [List.filter_cons_of_pos (by simp [e])]; simp)
            · have e : is2 (.tuple es) = true := by
                have hd : es.length = 2 := by omega
                match es, hd with
                | [a, b], _ => rfl
              walk_at "R"
              exact nx _ (by rw [List.filter_cons_of_neg (by simp [e])]; simp)
          | _ => walk_at "R"; exact nx _ (by rw [List.filter_cons_of_pos (by rfl)]; simp)
        · rintro acc ρ ⟨dn, k1, rfl, rfl⟩
          rw [List.append_nil] at k1
          subst k1
          cases h2 : ds.all is2 with
          | false =>
            rw [isB_n (namedD_f fun qs g => by rw [g.twos rfl] at h2; cases h2)] at hP
            have he : (ds.filter fun d => !is2 d).isEmpty = false := by
              rw [filt_emp]
              rw [List.all_eq_false] at h2
              obtain ⟨x, hx, hx2⟩ := h2
              have : ds.any (fun d => !is2 d) = true := List.any_eq_true.mpr ⟨x, hx, by simpa using hx2⟩
              rw [this]; rfl
            walk_at "R"
            rw [he]
            walk_at "R"
            exact hP
          | true =>
            have he : (ds.filter fun d => !is2 d).isEmpty = true := by
              rw [filt_emp]
              rw [List.all_eq_true] at h2
              have : ds.any (fun d => !is2 d) = false := List.any_eq_false.mpr fun x hx => by simp [h2 x hx]
              rw [this]; rfl
            walk_at "R"
            rw [he]
            walk_at "R"
            obtain ⟨ps, rfl⟩ := twos_of h2
            rw [List.length_map] at h8
            refine lc_list (fun p : D × D => PyData.tuple [p.1, p.2]) (fun p => p.1) ?_ (by omega) ?_
            · intro p hp ds acc hacc hnext
              have ha0 : atI [p.1, p.2] 0 = some p.1 := at_0 _ _
              walk_at "R"
              exact hnext
            have hbn := blsOf_map isName (ps.map (·.1))
            walk_at "R"
            refine lc_id (as := ps.map (·.1)) (fun d => .bool (isName d)) (fun d hm ds' acc ha hk => ?_) (by rw [List.length_map]; omega) ?_
            · obtain ⟨p, hp, rfl⟩ := List.mem_map.mp hm
              walk_at "R"
              refine use_name ((hF.tup _ (List.mem_map_of_mem hp)).tup p.1 (by simp)) ?_
              walk_at "R"
              exact hk
            walk_at "R"
            rw [all_map]
            cases hnm : (ps.map (·.1)).all isName with
            | false =>
              rw [isB_n (namedD_f fun qs g => by
                have this := fst_eq (PyData.tuple.inj g.eq)
                rw [this, List.all_map] at hnm
                have : (qs.all (isName ∘ fun q => PyData.str q.1)) = true := List.all_eq_true.mpr fun q hq => (g.nm q hq).is
                rw [this] at hnm; cases hnm)] at hP
              walk_at "R"
              exact hP
            | true =>
              obtain ⟨qs, rfl, nmq⟩ := names_of hnm
              have eP : ((qs.map fun q => (PyData.str q.1, q.2)).map fun p : D × D => PyData.tuple [p.1, p.2]) = qs.map pD := by rw [List.map_map]; rfl
              have eN : ((qs.map fun q => (PyData.str q.1, q.2)).map (·.1)) = (qn qs).map PyData.str := by unfold qn; rw [List.map_map, List.map_map]; rfl
              rw [eP] at hF hP no hz ⊢
              rw [eN]
              rw [List.length_map] at h8
              have hks : ksOf ((qn qs).map PyData.str) = some ((qn qs).map Sum.inr) := ks_strs _
              have h4 : ((qn qs).map (Sum.inr : Str → Key)).length ≤ 4000 := by unfold qn; rw [List.length_map, List.length_map]; omega
              walk_at "R"
              have ek : ((qn qs).map (Sum.inr : Str → Key)).length = qs.length := by unfold qn; rw [List.length_map, List.length_map]
              have eq2 : ((qn qs).map PyData.str).length = qs.length := by unfold qn; rw [List.length_map, List.length_map]
              have ef := ddp_full ((qn qs).map (Sum.inr : Str → Key))
              have l1 : 1 ≤ qs.length := by simp only [List.length_map] at h1; omega
              apply br_d <;> intro hd
              · have hlt := hd
                rw [isB_n (namedD_f fun qs' g => by
                  have := pD_inj (PyData.tuple.inj g.eq)
                  subst this
                  have h5 : ((qn qs).map (Sum.inr : Str → Key)).Nodup := List.Pairwise.map _ (fun a b h q => h (Sum.inr.inj q)) g.nd
                  have := ef.mpr h5
                  omega)] at hP
                walk_at "R"
                exact hP
              · have hge := hd
                have hnd : (qn qs).Nodup := by
                  have h3 : (ddp ((qn qs).map (Sum.inr : Str → Key))).length = ((qn qs).map (Sum.inr : Str → Key)).length := by
                    have := ddp_le ((qn qs).map (Sum.inr : Str → Key)); omega
                  exact (List.pairwise_map.mp (ef.mp h3)).imp fun h e => h (by rw [e])
                have hN : Nam (.tuple (qs.map pD)) qs := ⟨rfl, l1, by omega, nmq, hnd⟩
                have hbf := blsOf_map (fun q : Str × D => isForm 8 q.2) qs
                walk_at "R"
                refine lc_list pD (fun q => PyData.bool (isForm 8 q.2)) ?_ (by omega) ?_
                · intro q hq ds acc hacc hnext
                  have g1 : Fit q.2 := (hF.tup (pD q) (List.mem_map_of_mem hq)).tup q.2 (by simp)
                  have ha1 : atI [PyData.str q.1, q.2] 1 = some q.2 := rfl
                  obtain ⟨y, e⟩ := q
                  walk_at "R"
                  refine use_formed (l := 8) (n := 9) (by omega) g1 ?_
                  walk_at "R"
                  exact hnext
                walk_at "R"
                rw [all_map]
                cases hall : qs.all fun q => isForm 8 q.2 with
                | false =>
                  rw [List.all_eq_false] at hall
                  obtain ⟨q, hq, hf⟩ := hall
                  rw [isB_w hN hq (rgtB_f (by simpa using hf))] at hP
                  walk_at "R"
                  exact hP
                | true =>
                  obtain ⟨bk, rfl, wfb, dpb⟩ := forms_of hall
                  have eB : (toQ bk).map pD = bk.map pairD := by unfold toQ; rw [List.map_map]; rfl
                  have hlq : (toQ bk).length = bk.length := List.length_map ..
                  have hcb : cntB bk ≤ 1000000 := cntB_fit (by rw [eB] at hF; exact hF)
                  have mk : (∀ p ∈ bk, callsOk (namesOf bk) p.2 = true) → Rgt (.tuple ((toQ bk).map pD)) bk := fun hc => ⟨by rw [eB]; rfl, by omega, by omega, fun p hp => nmq (p.1, p.2.toD) (List.mem_map_of_mem (f := fun p : Str × Rdr => (p.1, p.2.toD)) hp), by rw [← toQ_names]; exact hnd, wfb, dpb, hc⟩
                  have bad : ∀ p ∈ bk, callsOk (namesOf bk) p.2 = false → isB (.tuple ((toQ bk).map pD)) = false := fun p hp hc => isB_w hN (q := (p.1, p.2.toD)) (List.mem_map_of_mem (f := fun p : Str × Rdr => (p.1, p.2.toD)) hp) (by rw [toQ_names, rgtB_r (wfb p hp) (dpb p hp)]; exact hc)
                  rw [eB] at hP mk bad
                  walk_at "R"
                  rw [eB, toQ_names]
                  refine lp_by (fun ds' ρ => ∃ (dn rest : List (Str × Rdr)) (s3 s5 s6 : Option Ce), ρ = [some (.val (.tuple (bk.map pairD))), none, some (.val (.list ((namesOf bk).map PyData.str))), s3, some (.val (.int (cntB dn : Nat))), s5, s6, none] ∧ bk = dn ++ rest ∧ ds' = rest.map pairD ∧ ∀ p ∈ dn, callsOk (namesOf bk) p.2 = true) ⟨[], bk, _, _, _, rfl, rfl, rfl, fun p h => (nomatch h)⟩ ?_ ?_
                  · rintro d' ds' ρ ⟨dn, rest, s3, s5, s6, rfl, k1, k2, k3⟩ ih
                    cases rest with
                    | nil => cases k2
                    | cons q rest =>
                    simp only [List.map_cons, List.cons.injEq] at k2
                    obtain ⟨rfl, rfl⟩ := k2
                    have hq : q ∈ bk := by rw [k1]; simp
                    have hd8 := dpb q hq
                    have hbad := bad q hq
                    obtain ⟨y, r⟩ := q
                    have hsum : cntB bk = cntB dn + (r.cnt + cntB rest) := by rw [k1, cntB_app, cntB_cons]
                    have hpr := pre_len r
                    walk_at "R"
                    refine use_aw hd8 (by omega) ?_
                    walk_at "R"
                    refine lcc_by (fun ds acc ρ => ∃ d2 r2 : List Rdr, pre r = d2 ++ r2 ∧ ds = r2.map Rdr.toD ∧ acc = (d2.filter (badCall (namesOf bk))).map Rdr.toD ∧ ρ = [some (.val (.tuple (bk.map pairD))), none, some (.val (.list ((namesOf bk).map PyData.str))), some (.val (.str y)), some (.val (.int ((cntB dn : Int) + (((pre r).map Rdr.toD).length : Int)))), some (.val r.toD), some (.val (.list ((pre r).map Rdr.toD))), none]) ⟨[], pre r, rfl, rfl, rfl, rfl⟩ ?_ ?_
                    · rintro d3 ds3 acc ρ ⟨d2, r2, j1, j2, rfl, rfl⟩ ih2
                      cases r2 with
                      | nil => cases j2
                      | cons q r2 =>
                      simp only [List.map_cons, List.cons.injEq] at j2
                      obtain ⟨rfl, rfl⟩ := j2
                      have hdl : d2.length + (r2.length + 1) = (pre r).length := by rw [j1]; simp
                      have hacc : ((d2.filter (badCall (namesOf bk))).map Rdr.toD).length < sizeLine := by
                        have := List.length_filter_le (badCall (namesOf bk)) d2
                        rw [List.length_map]; omega
                      have nx : ∀ acc', acc' = ((d2 ++ [q]).filter (badCall (namesOf bk))).map Rdr.toD → _ := fun acc' e => ih2 acc' _ ⟨d2 ++ [q], r2, by rw [j1]; simp, rfl, e, rfl⟩
                      rw [List.filter_append, List.map_append] at nx
                      have stay : badCall (namesOf bk) q = false → _ := fun e => nx ((d2.filter (badCall (namesOf bk))).map Rdr.toD) (by rw [List.filter_cons_of_neg (by simp [e])]; simp)
                      cases q with
                      | l0 w => cases w <;> (walk_at "R"; exact stay rfl)
                      | l1 w x =>
                        cases w
                        · walk_at "R"; exact stay rfl
                        · walk_at "R"; exact stay rfl
                        · walk_at "R"
                          apply rqB.mk
                          · rw [flatD_strs]; rfl
                          rw [flat_strsD, Bool.true_xor]
                          walk_at "R"
                          apply br_nd <;> intro hd
                          · walk_at "R"
                            exact nx _ (by rw [List.filter_cons_of_pos (by show (!decide (x ∈ namesOf bk)) = true; rw [decide_eq_false hd]; rfl)]; rfl)
                          · walk_at "R"
                            exact stay (by show (!decide (x ∈ namesOf bk)) = false; rw [decide_eq_true hd]; rfl)
                        · walk_at "R"; exact stay rfl
                      | ps w rs =>
                        have e : (Rdr.ps w rs).toD = .tuple [.str w.s, .tuple (rs.map Rdr.toD)] := by rw [Rdr.toD, toDs_map]
                        rw [e]
                        cases w <;> (walk_at "R"; exact stay rfl)
                      | un w r => cases w <;> (walk_at "R"; exact stay rfl)
                      | bi w x r => cases w <;> (walk_at "R"; exact stay rfl)
                    · rintro acc ρ ⟨d2, r2, j1, j2, rfl, rfl⟩
                      have e0 : r2 = [] := by simpa using j2.symm
                      subst e0
                      rw [List.append_nil] at j1
                      subst j1
                      have em : (((pre r).filter (badCall (namesOf bk))).map Rdr.toD).isEmpty = callsOk (namesOf bk) r := by
                        rw [List.isEmpty_map, bad_emp, cals_pre]; rfl
                      walk_at "R"
                      rw [em]
                      cases hco : callsOk (namesOf bk) r with
                      | false =>
                        rw [hbad hco] at hP
                        walk_at "R"
                        exact hP
                      | true =>
                        walk_at "R"
                        refine ih _ ⟨dn ++ [(y, r)], rest, some (.val (.str y)), some (.val r.toD), some (.val (.list ((pre r).map Rdr.toD))), ?_, by rw [k1]; simp, rfl, fun p hp => ?_⟩
                        · have e : ((cntB (dn ++ [(y, r)]) : Nat) : Int) = (cntB dn : Int) + (((pre r).map Rdr.toD).length : Int) := by
                            rw [cntB_app, cntB_cons, cntB_nil, List.length_map]; omega
                          rw [e]; rfl
                        · rcases List.mem_append.mp hp with hp | hp
                          · exact k3 p hp
                          · rw [List.mem_singleton.mp hp]; exact hco
                  · rintro ρ ⟨dn, rest, s3, s5, s6, rfl, k1, k2, k3⟩
                    have e0 : rest = [] := by simpa using k2.symm
                    subst e0
                    rw [List.append_nil] at k1
                    subst k1
                    rw [isB_c (mk k3)] at hP
                    walk_at "R"
                    have ee : decide (((cntB bk : Nat) : Int) < 81) = decide (cntB bk ≤ 80) := by
                      by_cases c : cntB bk ≤ 80
                      · rw [decide_eq_true c, decide_eq_true (by omega)]
                      · rw [decide_eq_false c, decide_eq_false (by omega)]
                    rw [ee]
                    exact hP
    · rw [isB_l (by omega)] at hP
      walk_at "R"
      exact hP
  | _ =>
    rw [no (fun ds e => by cases e)] at hP
    walk_at "R"
    exact hP
end L04
namespace L04
open PySem L2 PyProof.Rows DL
local macro_rules | `(tactic| walk_at "G") => `(tactic| ((conv => whnf); try dsimp only [DL.MB.toD, DL.cellOf]))
local macro_rules | `(tactic| walk_at "O") => `(tactic| first | assumption | omega | (refine ⟨?_, ?_⟩ <;> first | assumption | omega) | (simp only [DL.app_len]; omega) | (simp only [List.length_append, List.length_cons, List.length_nil, List.length_map]; omega))
local macro_rules | `(tactic| walk_at "P") => `(tactic| first | omega | (simp only [List.length_map]; omega))
local macro_rules | `(tactic| walk_at "R") => `(tactic| (walk_at "G"; repeat ((first | (apply DL.Rq.mk; (· walk_at "O")) | (apply DL.on_i; (· assumption)) | (apply DL.rqB.mk; (· exact DL.okR_of (by walk_at "P") (by walk_at "P"))) | (apply DL.rqB.mk; (· exact DL.okR2_of (by walk_at "P") (by walk_at "P") (by walk_at "P") (by walk_at "P")))); walk_at "G")))
local macro_rules | `(tactic| walk_at "N") => `(tactic| (walk_at "R"; repeat ((first | (refine And.intro rfl ?_) | (refine And.intro (of_decide_eq_true rfl) ?_) | (refine And.intro (by decide) ?_)); walk_at "R")))
structure Bk6 (bk : List (Str × Rdr)) : Prop where
  nd : (namesOf bk).Nodup
  ok : BkOk bk
  l1 : 1 ≤ bk.length
  cal : ∀ p ∈ bk, ∀ y ∈ anms p.2, y ∈ namesOf bk
def c_bk6 : Ct := fun as P => ∃ pen most b, as = [.box (.L pen), .val (.int most)] ∧ 8 ≤ most ∧ most ≤ 80 ∧ PenOk (b + 10000000000) pen ∧ ∀ bk pen', Bk6 bk → PenOk b pen' → P (.val (bookD bk)) [.box (.L pen'), .val (.int most)]
theorem use_bk6 {pen : List D} {most : Int} {b : Nat} {P : R → List Ar → Prop} (h1 : 8 ≤ most) (h2 : most ≤ 80) (hp : PenOk (b + 10000000000) pen) (h : ∀ bk pen', Bk6 bk → PenOk b pen' → P (.val (bookD bk)) [.box (.L pen'), .val (.int most)]) : Cl c_bk6 [.box (.L pen), .val (.int most)] P := ⟨pen, most, b, rfl, h1, h2, hp, h⟩
theorem w_bk6 (as : List Ar) (P : R → List Ar → Prop) (h : c_bk6 as P) : ctOf 5 (m__law_book c_names c_draw (c_rd 8)) as P := by
  obtain ⟨pen, most, b, rfl, hm1, hm2, hp, hP⟩ := h
  have sl := sizeLine_eq
  have hc8 := cost_8
  have hc := cost_ge 8
  generalize hC : cost 8 = C at *
  replace hp : PenOk (b + 200 + 8 * (C + 1)) pen := hp.mono (by omega)
  generalize hT : 8 * (C + 1) = T at hp
  walk_at "R"
  refine use_draw (b := b + 199 + T) (hp.mono (by omega)) (by split <;> omega) (by split <;> omega) fun v1 pen1 a1 a2 hp1 => ?_
  walk_at "R"
  refine use_names (b := b + 150 + T) (by omega) (by split at a2 <;> omega) (hp1.mono (by omega)) fun names pen2 nl nd nn hp2 => ?_
  have nm : NmsOk names := ⟨by intro e; subst e; simp at nl; omega, by split at a2 <;> omega, nn⟩
  have n8 := nm.2.1
  walk_at "R"
  refine use_draw (b := b + 149 + T) (hp2.mono (by omega)) (by rw [List.length_map]; omega) (by rw [List.length_map]; omega) fun v2 pen3 b1 b2 hp3 => ?_
  walk_at "R"
  refine use_draw (b := b + 148 + T) (hp3.mono (by omega)) (by omega) (by omega) fun v3 pen4 c1 c2 hp4 => ?_
  obtain ⟨_, hat, u, rfl, u1, u2⟩ := at_all (ds := [PyData.int (most - ((names.map PyData.str).length : Int)), PyData.int v2]) (v := v3) (fun d => ∃ s, d = .int s ∧ 0 ≤ s ∧ s ≤ most - names.length) c1 c2 (by
    intro d hd
    simp only [List.mem_cons, List.not_mem_nil, or_false] at hd
    rcases hd with rfl | rfl
    · exact ⟨_, rfl, by rw [List.length_map]; omega, by rw [List.length_map]; omega⟩
    · exact ⟨_, rfl, b1, by rw [List.length_map] at b2; omega⟩)
  walk_at "R"
  refine lcc_by (fun ds acc r => ∃ (pen : List D) (w : Int) (bk : List (Str × Rdr)) (rest : List Str), r = [some (.box true (.L pen)), some (.val (.int most)), some (.val (.list (names.map PyData.str))), some (.box false (.L [.int w])), none] ∧ ds = rest.map PyData.str ∧ names = namesOf bk ++ rest ∧ acc = bk.map pairD ∧ (∀ p ∈ bk, Wn names p.2 ∧ p.2.dep ≤ 8) ∧ 0 ≤ w ∧ ((cntB bk : Nat) : Int) ≤ (bk.length : Int) + u - w ∧ PenOk (b + (C + 1) * rest.length) pen) ?_ ?_ ?_
  · refine ⟨pen4, u, [], names, rfl, rfl, rfl, rfl, fun p hp => (nomatch hp), u1, by show (0 : Int) ≤ (0 : Nat) + u - u; omega, hp4.mono ?_⟩
    have : (C + 1) * names.length ≤ (C + 1) * 8 := Nat.mul_le_mul_left _ n8
    omega
  · rintro d ds acc r ⟨pen3, w, bk, rest, rfl, k1, k2, rfl, k4, k5, k6, k7⟩ ih
    cases rest with
    | nil => cases k1
    | cons y rest =>
    simp only [List.map_cons, List.cons.injEq] at k1
    obtain ⟨rfl, rfl⟩ := k1
    simp only [List.length_cons, Nat.mul_succ] at k7
    have hbl : bk.length + (rest.length + 1) = names.length := by
      have := congrArg List.length k2
      rw [List.length_append] at this
      simp only [namesOf, List.length_map, List.length_cons] at this
      omega
    have hl' : (bk.map pairD).length < sizeLine := by rw [List.length_map]; omega
    walk_at "R"
    refine use_draw (b := b + (C + 1) * rest.length + C) (k7.mono (by omega)) (by omega) (by omega) fun v pen4 c1 c2 hp4 => ?_
    walk_at "R"
    refine use_rd (b := b + (C + 1) * rest.length) nm (by omega) (by omega) k5 (by omega) (by rw [hC]; exact hp4) fun r pen5 u2 g1 g2 g3 g4 hp5 => ?_
    walk_at "R"
    refine ih _ _ ⟨pen5, u2, bk ++ [(y, r)], rest, rfl, rfl, by rw [k2]; simp [namesOf], by rw [List.map_append]; rfl, ?_, g3, ?_, hp5⟩
    · intro p hp
      rcases List.mem_append.mp hp with hp | hp
      · exact k4 p hp
      · rw [List.mem_singleton.mp hp]; exact ⟨g1, g2⟩
    · rw [cntB_app, cntB_cons, cntB_nil, List.length_append, List.length_singleton]; omega
  · rintro acc r ⟨pen3, w, bk, rest, rfl, k1, k2, rfl, k4, k5, k6, k7⟩
    have e0 : rest = [] := by simpa using k1.symm
    subst e0
    rw [List.append_nil] at k2
    have hbl : bk.length = names.length := by
      have := congrArg List.length k2
      simp only [namesOf, List.length_map] at this
      omega
    have gd : Bk6 bk := ⟨by rw [← k2]; exact nd, ⟨by omega, fun p hp => nn _ (by rw [k2]; exact List.mem_map_of_mem hp), fun p hp => (k4 p hp).1.1, fun p hp => (k4 p hp).2, by omega⟩, by omega, fun p hp y hy => by rw [← k2]; exact (k4 p hp).1.2 y hy⟩
    walk_at "R"
    refine hP bk pen3 gd (k7.mono (by omega))
theorem at_neg {ds : List D} (p : D → Prop) (h1 : 1 ≤ ds.length) (h : ∀ d ∈ ds, p d) : ∃ d, atI ds (-1) = some d ∧ p d := by
  obtain ⟨d, hd⟩ : ∃ d, ds[ds.length - 1]? = some d := ⟨_, List.getElem?_eq_getElem (by omega)⟩
  refine ⟨d, ?_, h d (List.mem_of_getElem? hd)⟩
  have e : ixN ds.length (-1) = some (ds.length - 1) := by
    unfold ixN
    rw [if_neg (by omega), if_pos (by omega)]
    congr 1
    omega
  unfold atI
  rw [e]
  exact hd
theorem wts_le_book {n : Nat} : ∀ bk : List (Str × Rdr), (∀ p ∈ bk, Nm p.1 ∧ p.2.wf) → wts (bk.map pairD) ≤ 1050 * cntB bk + 200 * bk.length
  | [], _ => Nat.zero_le _
  | (y, r) :: bk, h => by
    have ih := wts_le_book (n := n) bk fun p hp => h p (List.mem_cons_of_mem _ hp)
    obtain ⟨h1, h2⟩ := h _ List.mem_cons_self
    have a2 := Rdr.wt r h2.good
    have a3 : y.length ≤ 8 := h1.2.2
    rw [List.map_cons, wts, cntB_cons, List.length_cons]
    simp only [pairD, wt, wts]
    have : (10 * 94 + 110) * r.cnt = 1050 * r.cnt := rfl
    have : 1050 * (r.cnt + cntB bk) = 1050 * r.cnt + 1050 * cntB bk := Nat.mul_add ..
    have : 200 * (bk.length + 1) = 200 * bk.length + 200 := rfl
    omega
theorem pl_s {x : Str} {n : Nat} (h : Tx n x) : Pl (.str x) := ⟨h.2, rfl, rfl⟩
theorem pl_pair {p : Str × Rdr} (h1 : Nm p.1) (h2 : p.2.wf) : Pl (pairD p) := Pl.tup.mpr fun d hd => by
  simp only [List.mem_cons, List.not_mem_nil, or_false] at hd
  rcases hd with rfl | rfl
  · exact pl_s h1.ok
  · exact Rdr.pl h2
theorem pls_book {bk : List (Str × Rdr)} (h : BkOk bk) : Pls (bk.map pairD) := fun d hd => by
  obtain ⟨p, hp, rfl⟩ := List.mem_map.mp hd
  exact pl_pair (h.nm p hp) (h.wf p hp)
theorem wts_book {bk : List (Str × Rdr)} (h : BkOk bk) : wts (bk.map pairD) ≤ 86000 := by
  have := wts_le_book (n := 0) bk fun p hp => ⟨h.nm p hp, h.wf p hp⟩
  have h1 := h.cnt
  have h2 := h.l2
  have : 1050 * cntB bk ≤ 1050 * 80 := Nat.mul_le_mul_left _ h1
  omega
theorem dep_book {bk : List (Str × Rdr)} (h : BkOk bk) : PyData.depthAll (bk.map pairD) ≤ 18 := depthAll_le.mpr fun d hd => by
  obtain ⟨p, hp, rfl⟩ := List.mem_map.mp hd
  have a3 := Rdr.depth p.2
  have a4 := h.dep p hp
  simp only [pairD, PyData.depth, PyData.depthAll]
  omega
theorem pls_sub {A B : List D} (h : Pls B) (s : ∀ x ∈ A, x ∈ B) : Pls A := fun x hx => h x (s x hx)
theorem wts_sub : ∀ {A B : List D}, A.Sublist B → wts A ≤ wts B
  | _, _, .slnil => Nat.le_refl _
  | _, _, .cons a h => by have := wts_sub h; rw [wts]; omega
  | _, _, .cons₂ a h => by have := wts_sub h; rw [wts, wts]; omega
theorem dep_sub {A B : List D} (h : ∀ x ∈ A, x ∈ B) : PyData.depthAll A ≤ PyData.depthAll B := depthAll_le.mpr fun d hd => depthAll_le.mp (Nat.le_refl _) d (h d hd)
theorem wts_perm : ∀ A : List D, wts A.reverse = wts A
  | [] => rfl
  | a :: A => by rw [List.reverse_cons, wts_app, wts_perm A, wts, wts, wts]; omega
/-- a spoilt book -/
abbrev Sp (o : D) : Prop := Bt 900000 60 o
/-- one thing put between -/
theorem sp_swap {bk : List (Str × Rdr)} (hb : BkOk bk) {A B : List D} {o : D} (hA : A.Sublist (bk.map pairD)) (hB : B.Sublist (bk.map pairD)) (h : Bt 700000 58 o) : Sp (.tuple (A ++ [o] ++ B)) := by
  have w1 := Nat.le_trans (wts_sub hA) (wts_book hb)
  have w2 := Nat.le_trans (wts_sub hB) (wts_book hb)
  have d1 := Nat.le_trans (dep_sub fun x hx => hA.subset hx) (dep_book hb)
  have d2 := Nat.le_trans (dep_sub fun x hx => hB.subset hx) (dep_book hb)
  exact (Bt.swap (pls_sub (pls_book hb) fun x hx => hA.subset hx) (pls_sub (pls_book hb) fun x hx => hB.subset hx) h).mono (by omega) (by omega)
theorem prs_book : ∀ bk : List (Str × Rdr), prsOf (bk.map pairD) = some (bk.map fun p => ((.inr p.1 : Key), p.2.toD))
  | [] => rfl
  | (y, r) :: bk => by
    rw [List.map_cons, prsOf, prs_book bk]; rfl
theorem put_new {kvs : List (D × D)} {k : Key} {d : D} (h : ∀ p ∈ kvs, kOf p.1 ≠ some k) : dPut kvs k d = kvs ++ [(kD k, d)] := by
  unfold dPut
  rw [if_neg]
  rw [List.any_eq_true]
  rintro ⟨p, hp, e⟩
  exact h p hp (of_decide_eq_true e)
theorem merge_book : ∀ (bk dn : List (Str × Rdr)), (namesOf (dn ++ bk)).Nodup → dMerge (dn.map fun p => (PyData.str p.1, p.2.toD)) (bk.map fun p => ((.inr p.1 : Key), p.2.toD)) = (dn ++ bk).map fun p => (PyData.str p.1, p.2.toD)
  | [], dn, _ => by rw [List.append_nil]; rfl
  | (y, r) :: bk, dn, h => by
    have ih := merge_book bk (dn ++ [(y, r)]) (by rw [List.append_assoc]; exact h)
    have e : dPut (dn.map fun p => (PyData.str p.1, p.2.toD)) (.inr y) r.toD = (dn ++ [(y, r)]).map fun p => (PyData.str p.1, p.2.toD) := by
      rw [put_new, List.map_append]
      · rfl
      · intro p hp q
        obtain ⟨z, hz, rfl⟩ := List.mem_map.mp hp
        have q : kOf (.str z.1) = some (.inr y) := q
        have e2 : z.1 = y := by simpa [kOf] using q
        unfold namesOf at h
        rw [List.map_append, List.map_cons] at h
        exact (List.nodup_append.mp h).2.2 _ (List.mem_map_of_mem hz) y List.mem_cons_self e2
    rw [List.map_cons, show dMerge (dn.map fun p => (PyData.str p.1, p.2.toD)) (((.inr y : Key), r.toD) :: bk.map fun p => ((.inr p.1 : Key), p.2.toD)) = dMerge (dPut (dn.map fun p => (PyData.str p.1, p.2.toD)) (.inr y) r.toD) (bk.map fun p => ((.inr p.1 : Key), p.2.toD)) from rfl, e, ih, List.append_assoc]
    rfl
theorem sp_dict {bk : List (Str × Rdr)} (hb : BkOk bk) : Sp (.dict (bk.map fun p => (PyData.str p.1, p.2.toD))) := by
  have w := wts_book hb
  have g1 : ∀ bk : List (Str × Rdr), (∀ p ∈ bk, Nm p.1 ∧ p.2.wf) → okDk (bk.map fun p => (PyData.str p.1, p.2.toD)) := by
    intro bk
    induction bk with
    | nil => intro _; trivial
    | cons p bk ih =>
      intro h
      obtain ⟨h1, h2⟩ := h p List.mem_cons_self
      exact ⟨h1.ok.2, Rdr.okD _ h2.good, ih fun q hq => h q (List.mem_cons_of_mem _ hq)⟩
  have g2 : ∀ bk : List (Str × Rdr), wtk (bk.map fun p => (PyData.str p.1, p.2.toD)) ≤ wts (bk.map pairD) := by
    intro bk
    induction bk with
    | nil => exact Nat.le_refl _
    | cons p bk ih =>
      rw [List.map_cons, List.map_cons, wtk, wts]
      simp only [pairD, wt, wts]
      omega
  have g3 : ∀ bk : List (Str × Rdr), PyData.depthKv (bk.map fun p => (PyData.str p.1, p.2.toD)) ≤ PyData.depthAll (bk.map pairD) := by
    intro bk
    induction bk with
    | nil => exact Nat.le_refl _
    | cons p bk ih =>
      rw [List.map_cons, List.map_cons]
      simp only [PyData.depthKv, PyData.depthAll, pairD, PyData.depth]
      omega
  have g4 : ∀ bk : List (Str × Rdr), noListK (bk.map fun p => (PyData.str p.1, p.2.toD)) = true := by
    intro bk
    induction bk with
    | nil => rfl
    | cons p bk ih =>
      rw [List.map_cons]
      simp only [noListK, DL.noList, Rdr.noList, ih, Bool.and_self]
  have := g2 bk
  have := g3 bk
  have := dep_book hb
  exact ⟨g1 bk fun p hp => ⟨hb.nm p hp, hb.wf p hp⟩, by rw [wt]; omega, by simp only [PyData.depth]; omega, .inl (g4 bk)⟩
def c_sp4 : Ct := fun as P => ∃ pen bk b, as = [.box (.L pen), .val (bookD bk)] ∧ Bk6 bk ∧ PenOk (b + 100) pen ∧ ∀ o pen', Sp o → PenOk b pen' → P (.val o) [.box (.L pen'), .val (bookD bk)]
theorem use_sp4 {pen : List D} {bk : List (Str × Rdr)} {b : Nat} {P : R → List Ar → Prop} (h1 : Bk6 bk) (hp : PenOk (b + 100) pen) (h : ∀ o pen', Sp o → PenOk b pen' → P (.val o) [.box (.L pen'), .val (bookD bk)]) : Cl c_sp4 [.box (.L pen), .val (bookD bk)] P := ⟨pen, bk, b, rfl, h1, hp, h⟩
theorem w_sp4 (as : List Ar) (P : R → List Ar → Prop) (h : c_sp4 as P) : ctOf 10 (m__law_spoilt c_draw (c_bent 8)) as P := by
  obtain ⟨pen, bk, b, rfl, gb, hp, hP⟩ := h
  have sl := sizeLine_eq
  have hb := gb.ok
  have hl2 := hb.l2
  have hl1 := gb.l1
  walk_at "R"
  refine use_draw (b := b + 99) hp (by rw [List.length_map]; omega) (by rw [List.length_map]; omega) fun v1 pen1 a1 a2 hp1 => ?_
  rw [List.length_map] at a2
  obtain ⟨i, rfl⟩ := Int.eq_ofNat_of_zero_le a1
  obtain ⟨A, p, B, e1, e2⟩ : ∃ A p B, bk = A ++ p :: B ∧ A.length = i := by
    refine ⟨bk.take i, bk[i], bk.drop (i + 1), ?_, by rw [List.length_take]; omega⟩
    rw [List.getElem_cons_drop, List.take_append_drop]
  have c1 : DL.cutD (bk.map pairD) none (some (i : Int)) = A.map pairD := by rw [DL.cutD_hi, e1, List.map_append, ← e2]; simp
  have c2 : DL.cutD (bk.map pairD) (some ((i : Int) + 1)) none = B.map pairD := by
    rw [show ((i : Int) + 1) = ((i + 1 : Nat) : Int) by omega, DL.cutD_lo, e1, List.map_append, ← e2, List.map_cons]
    rw [List.drop_append, List.drop_eq_nil_of_le (by rw [List.length_map]; omega)]
    simp
  have c3 : DL.cutD (bk.map pairD) (some (i : Int)) none = (p :: B).map pairD := by rw [DL.cutD_lo, e1, List.map_append, ← e2]; simp
  have hat : atI (bk.map pairD) (i : Int) = some (pairD p) := at_nat (by rw [e1, List.map_append, ← e2]; simp)
  have hlb : bk.length = A.length + (B.length + 1) := by rw [e1]; simp
  have sA : (A.map pairD).Sublist (bk.map pairD) := by rw [e1, List.map_append]; exact List.sublist_append_left _ _
  have sB : (B.map pairD).Sublist (bk.map pairD) := by rw [e1, List.map_append, List.map_cons]; exact (List.sublist_cons_self _ _).trans (List.sublist_append_right _ _)
  have sB2 : ((p :: B).map pairD).Sublist (bk.map pairD) := by rw [e1, List.map_append]; exact List.sublist_append_right _ _
  have hpm : p ∈ bk := by rw [e1]; simp
  have ny := hb.nm p hpm
  have wr := hb.wf p hpm
  have dr := hb.dep p hpm
  have wb := wts_book hb
  have wp := Nat.le_trans (wts_mem (List.mem_map_of_mem (f := pairD) hpm)) wb
  obtain ⟨y, r⟩ := p
  have dr : r.dep ≤ 8 := dr
  have ny : Nm y := ny
  have wr : r.wf := wr
  have wrr : wt r.toD ≤ 86000 := by simp only [pairD, wt, wts] at wp; omega
  have drr : r.toD.depth ≤ 16 := by have := Rdr.depth r; omega
  have lA : (A.map pairD).length = A.length := List.length_map ..
  have lB : (B.map pairD).length = B.length := List.length_map ..
  have py : Pl (.str y) := pl_s ny.ok
  have pr : Pl r.toD := Rdr.pl wr
  have wy : wt (.str y) ≤ 82 := by have := ny.2.2; simp only [wt]; omega
  walk_at "R"
  refine use_draw (b := b + 98) (hp1.mono (by omega)) (by omega) (by omega) fun v2 pen2 b1 b2 hp2 => ?_
  have hv : v2 < 3 ∨ v2 = 3 ∨ v2 = 4 ∨ v2 = 5 ∨ v2 = 6 ∨ v2 = 7 ∨ v2 = 8 := by omega
  rcases hv with hv | rfl | rfl | rfl | rfl | rfl | rfl
  · walk_at "R"
    apply br_d <;> intro hd
    · walk_at "R"
      refine use_bent (b := b) wr dr (by omega) (hp2.mono (by omega)) fun o pen3 ho hp3 => ?_
      walk_at "R"
      rw [c1]
      walk_at "R"
      rw [c2]
      walk_at "R"
      refine hP _ _ (sp_swap hb sA sB ((Bt.swap (A := [.str y]) (B := []) (pls1 py) pls_nil ho).mono ?_ ?_)) hp3
      · simp only [wts, bN]; omega
      · simp only [PyData.depthAll, PyData.depth, bK]; omega
    · exact absurd hv hd
  · obtain ⟨⟨y0, r0⟩, p0, h0⟩ : ∃ p ∈ bk, atI (bk.map pairD) 0 = some (pairD p) := by
      obtain ⟨d, h, p, hp, rfl⟩ := at_all (ds := bk.map pairD) (v := 0) (fun d => ∃ p ∈ bk, d = pairD p) (by omega) (by rw [List.length_map]; omega) fun d hd => by
        obtain ⟨p, hp, rfl⟩ := List.mem_map.mp hd
        exact ⟨p, hp, rfl⟩
      exact ⟨p, hp, h⟩
    obtain ⟨⟨y9, r9⟩, p9, h9⟩ : ∃ p ∈ bk, atI (bk.map pairD) (-1) = some (pairD p) := by
      obtain ⟨d, h, p, hp, rfl⟩ := at_neg (ds := bk.map pairD) (fun d => ∃ p ∈ bk, d = pairD p) (by rw [List.length_map]; omega) fun d hd => by
        obtain ⟨p, hp, rfl⟩ := List.mem_map.mp hd
        exact ⟨p, hp, rfl⟩
      exact ⟨p, hp, h⟩
    have s0 : Pl (.str y0) := pl_s (hb.nm _ p0).ok
    have s9 : Pl (.str y9) := pl_s (hb.nm _ p9).ok
    have w0 : wt (.str y0) ≤ 82 := by have : y0.length ≤ 8 := (hb.nm _ p0).2.2; simp only [wt]; omega
    have w9 : wt (.str y9) ≤ 82 := by have : y9.length ≤ 8 := (hb.nm _ p9).2.2; simp only [wt]; omega
    walk_at "R"
    refine use_draw (b := b + 97) (hp2.mono (by omega)) (by omega) (by omega) fun v3 pen3 d1 d2 hp3 => ?_
    obtain ⟨e, hat3, he⟩ := at_all (ds := [PyData.str "", .str "A", .str "ninesigns", .none, .int 7, .bool true, .list [.str "a"], .str y0, .str y9, .str "z"]) (v := v3) (fun e => Bt 1000 3 e) d1 d2 (by
      intro d hd
      simp only [List.mem_cons, List.not_mem_nil, or_false] at hd
      rcases hd with rfl | rfl | rfl | rfl | rfl | rfl | rfl | rfl | rfl | rfl <;> first
        | exact constB_ok (by decide +kernel)
        | exact s0.bt.mono (by omega) (by simp [PyData.depth])
        | exact s9.bt.mono (by omega) (by simp [PyData.depth]))
    walk_at "R"
    rw [c1]
    walk_at "R"
    rw [c2]
    walk_at "R"
    refine hP _ _ (sp_swap hb sA sB ((Bt.swap (A := []) (B := [r.toD]) pls_nil (pls1 pr) he).mono ?_ ?_)) (hp3.mono (by omega))
    · simp only [wts]; omega
    · simp only [PyData.depthAll]; omega
  · obtain ⟨⟨y0, r0⟩, p0, h0⟩ : ∃ p ∈ bk, atI (bk.map pairD) 0 = some (pairD p) := by
      obtain ⟨d, h, p, hp, rfl⟩ := at_all (ds := bk.map pairD) (v := 0) (fun d => ∃ p ∈ bk, d = pairD p) (by omega) (by rw [List.length_map]; omega) fun d hd => by
        obtain ⟨p, hp, rfl⟩ := List.mem_map.mp hd
        exact ⟨p, hp, rfl⟩
      exact ⟨p, hp, h⟩
    walk_at "R"
    refine use_draw (b := b + 97) (hp2.mono (by omega)) (by omega) (by omega) fun v3 pen3 d1 d2 hp3 => ?_
    obtain ⟨_, hat3, z, rfl, hz⟩ := at_all (ds := [PyData.str "zzz", .str y, .str y0]) (v := v3) (fun e => ∃ z, e = .str z ∧ Tx 8 z) d1 d2 (by
      intro d hd
      simp only [List.mem_cons, List.not_mem_nil, or_false] at hd
      rcases hd with rfl | rfl | rfl
      · exact ⟨_, rfl, by decide, okS_of (by decide +kernel)⟩
      · exact ⟨_, rfl, ny.ok⟩
      · exact ⟨_, rfl, (hb.nm _ p0).ok⟩)
    walk_at "R"
    rw [c1]
    walk_at "R"
    rw [c2]
    walk_at "R"
    have pz : Pl (.str z) := pl_s hz
    have wz : wt (.str z) ≤ 82 := by have := hz.1; simp only [wt]; omega
    have row : Pl (.str "row") := pl_str (by decide +kernel)
    have nam : Pl (.str "name") := pl_str (by decide +kernel)
    have w1 : wt (.str (Str.ofString "row")) = 32 := rfl
    have w2 : wt (.str (Str.ofString "name")) = 42 := rfl
    refine hP _ _ (sp_swap hb sA sB ((Pl.tup.mpr (pls_cons py (pls1 (Pl.tup.mpr (pls_cons row (pls1 (Pl.tup.mpr (pls_cons pr (pls1 (Pl.tup.mpr (pls_cons nam (pls1 pz)))))))))))).bt.mono ?_ ?_)) (hp3.mono (by omega))
    · simp only [wt, wts] at *; omega
    · simp only [PyData.depth, PyData.depthAll]; omega
  · walk_at "R"
    rw [c1]
    walk_at "R"
    rw [c2]
    walk_at "R"
    refine hP _ _ ?_ (hp2.mono (by omega))
    have w1 := Nat.le_trans (wts_sub sA) wb
    have w2 := Nat.le_trans (wts_sub sB) wb
    have d1 := Nat.le_trans (dep_sub fun x hx => sA.subset hx) (dep_book hb)
    have d2 := Nat.le_trans (dep_sub fun x hx => sB.subset hx) (dep_book hb)
    refine (Bt.plain (C := A.map pairD ++ B.map pairD) fun x hx => ?_).mono ?_ ?_
    · rcases List.mem_append.mp hx with hx | hx
      · exact pls_book hb x (sA.subset hx)
      · exact pls_book hb x (sB.subset hx)
    · rw [wts_app]; omega
    · rw [depthAll_app]; omega
  · have ql : y.length + (Str.ofString "q").length ≤ sizeLine := by have := ny.2.2; show y.length + 1 ≤ _; omega
    have pq : Pl (.str (y ++ Str.ofString "q")) := ⟨fun c hc => by
      rw [app_list] at hc
      rcases List.mem_append.mp hc with hc | hc
      · exact ny.ok.2 c hc
      · rw [show (Str.ofString "q").cps.toList = [113] by decide +kernel, List.mem_singleton] at hc
        omega, rfl, rfl⟩
    have wq : wt (.str (y ++ Str.ofString "q")) ≤ 92 := by have := ny.2.2; have e : (y ++ Str.ofString "q").length = y.length + 1 := app_len _ _; simp only [wt]; omega
    walk_at "R"
    refine use_draw (b := b + 97) (hp2.mono (by omega)) (by omega) (by omega) fun v3 pen3 d1 d2 hp3 => ?_
    obtain ⟨e, hat3, he⟩ := at_all (ds := [PyData.tuple [.str (y ++ Str.ofString "q"), r.toD], .tuple [.str y], .tuple [.str y, r.toD, r.toD], .list [.str y, r.toD], .none, .str y]) (v := v3) (fun e => Bt 700000 58 e) d1 d2 (by
      intro d hd
      simp only [List.mem_cons, List.not_mem_nil, or_false] at hd
      rcases hd with rfl | rfl | rfl | rfl | rfl | rfl
      · exact (Bt.plain (pls_cons pq (pls1 pr))).mono (by simp only [wts]; omega) (by simp only [PyData.depthAll, PyData.depth]; omega)
      · exact (Bt.plain (pls1 py)).mono (by simp only [wts]; omega) (by simp only [PyData.depthAll, PyData.depth]; omega)
      · exact (Bt.plain (pls_cons py (pls_cons pr (pls1 pr)))).mono (by simp only [wts]; omega) (by simp only [PyData.depthAll, PyData.depth]; omega)
      · exact (Bt.list (pls_cons py (pls1 pr))).mono (by simp only [wts]; omega) (by simp only [PyData.depthAll, PyData.depth]; omega)
      · exact ⟨trivial, by decide, by decide, .inl rfl⟩
      · exact py.bt.mono (by omega) (by simp [PyData.depth]))
    walk_at "R"
    rw [c1]
    walk_at "R"
    rw [c3]
    walk_at "R"
    exact hP _ _ (sp_swap hb sA sB2 he) (hp3.mono (by omega))
  · have ll : (bk.map pairD).length + (bk.map pairD).length ≤ sizeLine := by rw [List.length_map]; omega
    have hpr := prs_book bk
    have hmg := merge_book bk [] gb.nd
    rw [List.map_nil, List.nil_append] at hmg
    walk_at "R"
    refine use_draw (b := b + 97) (hp2.mono (by omega)) (by omega) (by omega) fun v3 pen3 d1 d2 hp3 => ?_
    rw [hmg]
    have pb := pls_book hb
    have db := dep_book hb
    obtain ⟨e, hat3, he⟩ := at_all (ds := [PyData.list (bk.map pairD), .dict (bk.map fun p => (PyData.str p.1, p.2.toD)), .tuple (bk.map pairD ++ bk.map pairD), .tuple [bookD bk], .tuple (bk.map pairD).reverse]) (v := v3) (fun e => Sp e) d1 d2 (by
      intro d hd
      simp only [List.mem_cons, List.not_mem_nil, or_false] at hd
      rcases hd with rfl | rfl | rfl | rfl | rfl
      · exact (Bt.list pb).mono (by omega) (by omega)
      · exact sp_dict hb
      · exact (Bt.plain (C := bk.map pairD ++ bk.map pairD) fun x hx => (List.mem_append.mp hx).elim (pb x) (pb x)).mono (by rw [wts_app]; omega) (by rw [depthAll_app]; omega)
      · exact (Bt.plain (pls1 (Pl.tup.mpr pb))).mono (by simp only [wts, wt]; omega) (by simp only [PyData.depthAll, PyData.depth]; omega)
      · have wr := wts_perm (bk.map pairD)
        exact (Bt.plain (C := (bk.map pairD).reverse) fun x hx => pb x (List.mem_reverse.mp hx)).mono (by omega) (by have := dep_sub (A := (bk.map pairD).reverse) (B := bk.map pairD) fun x hx => List.mem_reverse.mp hx; omega))
    walk_at "R"
    exact hP _ _ he (hp3.mono (by omega))
  · walk_at "R"
    refine use_draw (b := b + 97) (hp2.mono (by omega)) (by omega) (by omega) fun v3 pen3 d1 d2 hp3 => ?_
    generalize hW : PyData.tuple [PyData.str (Str.ofString "row"), PyData.tuple (List.replicate (Int.toNat 6) [PyData.tuple [PyData.str (Str.ofString "never")]]).flatten] = W
    have pW : Pl W := by rw [← hW]; exact ⟨okDB_ok (by decide +kernel), by decide +kernel, by decide +kernel⟩
    have wW : wt W ≤ 1000 := by rw [← hW]; decide +kernel
    have dW : W.depth ≤ 5 := by rw [← hW]; decide +kernel
    have hm : [W] ≠ [] ∧ 0 ≤ 2 + v3 ∧ 2 + v3 ≤ 1000 ∧ [W].length ≤ 1000 := ⟨by simp, by omega, by omega, by simp⟩
    walk_at "R"
    rw [c1]
    walk_at "R"
    rw [c2]
    walk_at "R"
    have ef : ∀ n : Nat, (List.replicate n [W]).flatten = List.replicate n W := fun n => by
      induction n with
      | zero => rfl
      | succ n ih => rw [List.replicate_succ, List.flatten_cons, ih, List.replicate_succ]; rfl
    obtain ⟨n, hn⟩ : ∃ n : Nat, (2 + v3).toNat = n ∧ n ≤ 6 := ⟨_, rfl, by omega⟩
    have ww : ∀ n : Nat, wts (List.replicate n W) ≤ n * 1002 := fun n => by
      induction n with
      | zero => exact Nat.zero_le _
      | succ n ih => rw [List.replicate_succ, wts]; omega
    have row : Pl (.str "row") := pl_str (by decide +kernel)
    have w1 : wt (.str (Str.ofString "row")) = 32 := rfl
    have pR : Pls (List.replicate n W) := fun x hx => by rw [(List.mem_replicate.mp hx).2]; exact pW
    have dR : PyData.depthAll (List.replicate n W) ≤ 5 := depthAll_le.mpr fun d hd => by rw [(List.mem_replicate.mp hd).2]; exact dW
    have wn := ww n
    rw [hn.1, ef]
    refine hP _ _ (sp_swap hb sA sB ((Pl.tup.mpr (pls_cons py (pls1 (Pl.tup.mpr (pls_cons row (pls1 (Pl.tup.mpr pR))))))).bt.mono ?_ ?_)) (hp3.mono (by omega))
    · have : n * 1002 ≤ 6 * 1002 := Nat.mul_le_mul_right _ hn.2
      simp only [wt, wts] at *; omega
    · simp only [PyData.depth, PyData.depthAll] at *; omega
end L04
namespace L04
open PySem L2 PyProof.Rows DL
local macro_rules | `(tactic| walk_at "G") => `(tactic| ((conv => whnf); try dsimp only [DL.MB.toD, DL.cellOf]))
local macro_rules | `(tactic| walk_at "O") => `(tactic| first | assumption | omega | (refine ⟨?_, ?_⟩ <;> first | assumption | omega) | (simp only [DL.app_len]; omega) | (simp only [List.length_append, List.length_cons, List.length_nil, List.length_map]; omega))
local macro_rules | `(tactic| walk_at "P") => `(tactic| first | omega | (simp only [List.length_map]; omega))
local macro_rules | `(tactic| walk_at "R") => `(tactic| (walk_at "G"; repeat ((first | (apply DL.Rq.mk; (· walk_at "O")) | (apply DL.on_i; (· assumption)) | (apply DL.rqB.mk; (· exact DL.okR_of (by walk_at "P") (by walk_at "P"))) | (apply DL.rqB.mk; (· exact DL.okR2_of (by walk_at "P") (by walk_at "P") (by walk_at "P") (by walk_at "P")))); walk_at "G")))
local macro_rules | `(tactic| walk_at "N") => `(tactic| (walk_at "R"; repeat ((first | (refine And.intro rfl ?_) | (refine And.intro (of_decide_eq_true rfl) ?_) | (refine And.intro (by decide) ?_)); walk_at "R")))
mutual
theorem rnms_anms : ∀ (r : Rdr) (y : Str), y ∈ rnms r → y ∈ anms r
  | .l0 w, y, h => by simp [rnms] at h
  | .l1 w x, y, h => by cases w <;> simp [rnms] at h; rw [h]; simp [anms]
  | .ps w rs, y, h => by rw [rnms] at h; rw [anms]; exact nmss_anms rs y h
  | .un w r, y, h => by rw [rnms] at h; rw [anms]; exact rnms_anms r y h
  | .bi w x r, y, h => by
    rw [rnms] at h
    have := rnms_anms r y h
    cases w
    · rw [anms]; exact List.mem_cons_of_mem _ this
    · rw [anms]; exact List.mem_cons_of_mem _ this
    · rw [anms]; exact this
theorem nmss_anms : ∀ (rs : List Rdr) (y : Str), y ∈ nmss rs → y ∈ anmss rs
  | [], y, h => by simp [nmss] at h
  | r :: rs, y, h => by
    rw [nmss, List.mem_append] at h
    rw [anmss, List.mem_append]
    rcases h with h | h
    · exact .inl (rnms_anms r y h)
    · exact .inr (nmss_anms rs y h)
end
theorem Bk6.rgt {bk : List (Str × Rdr)} (h : Bk6 bk) : Rgt (bookD bk) bk := ⟨rfl, h.l1, h.ok.l2, h.ok.nm, h.nd, h.ok.wf, h.ok.dep, fun p hp => List.all_eq_true.mpr fun y hy => decide_eq_true (h.cal p hp y (rnms_anms _ y hy))⟩
theorem Bk6.isB {bk : List (Str × Rdr)} (h : Bk6 bk) : isB (bookD bk) = true := by rw [isB_c h.rgt]; exact decide_eq_true h.ok.cnt
theorem Bk6.sp {bk : List (Str × Rdr)} (h : Bk6 bk) : Sp (bookD bk) := (Bt.plain (pls_book h.ok)).mono (by have := wts_book h.ok; omega) (by have := dep_book h.ok; omega)
def c_law : Ct := fun as P => ∃ ns : List Int, as = [.scr ns] ∧ P (.val (.bool true)) [.scr ns]
theorem law_ok (ns : List Int) (h : ns.length ≤ 63) : c_law [.scr ns] fun y _ => y = .val (.bool true) := ⟨ns, rfl, rfl⟩
theorem w_law (as : List Ar) (P : R → List Ar → Prop) (h : c_law as P) : ctOf 13 (m_law c_bk6 c_draw c_isb c_isb c_sp4) as P := by
  obtain ⟨ns, rfl, hP⟩ := h
  have sl := sizeLine_eq
  have rb : ∀ b : Bool, reprOk (.bool b) = true := by intro b; cases b <;> decide +kernel
  walk_at "R"
  refine lp_by (fun ds ρ => ∃ (pen : List D) (s2 s3 s4 s6 : Option Ce) (s5 : Option D), ρ = [some (.scr ns), some (.box false (.L pen)), s2, s3, s4, s5.map Ce.val, s6, none, none, none, none, none, none] ∧ ds.length ≤ 4 ∧ PenOk (100000000000 * ds.length) pen) ?_ ?_ ?_
  · refine ⟨_, _, _, _, _, none, rfl, by rw [range_len]; decide, pen_start.mono (by rw [range_len]; decide)⟩
  · rintro d ds ρ ⟨pen, s2, s3, s4, s6, s5, rfl, hl, hp⟩ ih
    rw [List.length_cons] at hl hp
    walk_at "R"
    refine use_draw (b := 100000000000 * ds.length + 99999999999) (hp.mono (by omega)) (by omega) (by omega) fun v1 pen1 a1 a2 hp1 => ?_
    obtain ⟨_, hat, most, rfl, m1, m2⟩ := at_all (ds := [PyData.int 80, PyData.int 20, PyData.int 9]) (v := v1) (fun d => ∃ s, d = .int s ∧ 8 ≤ s ∧ s ≤ 80) a1 a2 (by
      intro d hd
      simp only [List.mem_cons, List.not_mem_nil, or_false] at hd
      rcases hd with rfl | rfl | rfl <;> exact ⟨_, rfl, by omega, by omega⟩)
    walk_at "R"
    refine use_bk6 (b := 100000000000 * ds.length + 1000) m1 m2 (hp1.mono (by omega)) fun bk pen2 gb hp2 => ?_
    have fb := gb.sp.fit (by omega) (by omega)
    walk_at "R"
    refine use_isb fb ?_
    rw [gb.isB]
    walk_at "R"
    refine use_isb fb ?_
    rw [gb.isB]
    walk_at "R"
    refine lp_by (fun ds' ρ => ∃ (pen : List D) (s4 s6 : Option Ce) (s5 : Option D), ρ = [some (.scr ns), some (.box false (.L pen)), some (.val d), some (.val (bookD bk)), s4, s5.map Ce.val, s6, none, none, none, none, none, none] ∧ ds'.length ≤ 8 ∧ PenOk (100000000000 * ds.length + 100 * ds'.length) pen) ?_ ?_ ?_
    · exact ⟨_, _, _, s5, rfl, by rw [range_len]; decide, hp2.mono (by rw [range_len]; show _ + 100 * 8 ≤ _; omega)⟩
    · rintro d' ds' ρ ⟨pen, s4, s6, s5, rfl, hl', hp'⟩ ih2
      rw [List.length_cons] at hl' hp'
      walk_at "R"
      refine use_sp4 (b := 100000000000 * ds.length + 100 * ds'.length) gb (hp'.mono (by omega)) fun o pen3 ho hp3 => ?_
      have fo := ho.fit (by omega) (by omega)
      have ro := ho.repr (by omega) (by omega)
      walk_at "R"
      apply rqB.mk ro
      walk_at "R"
      refine use_isb fo ?_
      walk_at "R"
      apply rqB.mk (rb _)
      walk_at "R"
      refine use_isb fo ?_
      walk_at "R"
      apply rqB.mk (rb _)
      walk_at "R"
      apply br_nd <;> intro hd
      · exact (hd rfl).elim
      walk_at "R"
      apply rqB.mk ro
      walk_at "R"
      apply br_nd <;> intro hd
      · exact (hd rfl).elim
      walk_at "R"
      exact ih2 _ ⟨pen3, _, _, some o, rfl, by omega, hp3⟩
    · rintro ρ ⟨pen, s4, s6, s5, rfl, hl', hp'⟩
      walk_at "R"
      exact ih _ ⟨pen, _, _, _, _, s5, rfl, by omega, hp'.mono (by simp)⟩
  · rintro ρ ⟨pen, s2, s3, s4, s6, s5, rfl, hl, hp⟩
    walk_at "R"
    generalize hW : PyData.tuple [PyData.str (Str.ofString "row"), PyData.tuple (List.replicate (Int.toNat 5) [PyData.tuple [PyData.str (Str.ofString "never")]]).flatten] = W
    have pW : Pl W := by rw [← hW]; exact ⟨okDB_ok (by decide +kernel), by decide +kernel, by decide +kernel⟩
    have wW : wt W ≤ 1000 := by rw [← hW]; decide +kernel
    have dW : W.depth ≤ 5 := by rw [← hW]; decide +kernel
    have hm : [W] ≠ [] ∧ (0 : Int) ≤ 6 ∧ (6 : Int) ≤ 1000 ∧ [W].length ≤ 1000 := ⟨by simp, by omega, by omega, by simp⟩
    refine lc_list (as := (["a", "b"] : List Str)) (fun x => PyData.str x) (fun x => PyData.tuple [.str x, .tuple [.str "row", .tuple (List.replicate (Int.toNat 6) [W]).flatten]]) ?_ (by decide +kernel) ?_
    · intro x hx ds acc hacc hnext
      walk_at "R"
      exact hnext
    generalize hM : List.map (fun x : Str => PyData.tuple [.str x, .tuple [.str "row", .tuple (List.replicate (Int.toNat 6) [W]).flatten]]) ["a", "b"] = Ms
    have row : Pl (.str "row") := pl_str (by decide +kernel)
    have nev : Pl (.tuple [.str "never"]) := ⟨okDB_ok (by decide +kernel), by decide +kernel, by decide +kernel⟩
    have pM : Pls Ms := by
      rw [← hM]
      intro d hd
      obtain ⟨x, hx, rfl⟩ := List.mem_map.mp hd
      refine Pl.tup.mpr (pls_cons ?_ (pls1 (Pl.tup.mpr (pls_cons row (pls1 (Pl.tup.mpr fun z hz => ?_))))))
      · simp only [List.mem_cons, List.not_mem_nil, or_false] at hx
        rcases hx with rfl | rfl <;> exact pl_str (by decide +kernel)
      · obtain ⟨l, hl1, hl2⟩ := List.mem_flatten.mp hz
        rw [(List.mem_replicate.mp hl1).2] at hl2
        rw [List.mem_singleton.mp hl2]; exact pW
    have e6 : (List.replicate (Int.toNat 6) [W]).flatten = [W, W, W, W, W, W] := rfl
    have wM : wts Ms ≤ 20000 := by
      rw [← hM, e6]
      simp only [List.map_cons, List.map_nil, wts, wt, show ("row" : Str).length = 3 from rfl, show ("a" : Str).length = 1 from rfl, show ("b" : Str).length = 1 from rfl]
      omega
    have dM : PyData.depthAll Ms ≤ 10 := by
      rw [← hM, e6]
      simp only [List.map_cons, List.map_nil, PyData.depthAll, PyData.depth]
      omega
    have lM : Ms.length = 2 := by rw [← hM]; rfl
    have fitM : ∀ X : D, Pl X → wt X ≤ 20000 → X.depth ≤ 40 → Fit (.tuple (Ms ++ [X])) := fun X h1 h2 h3 => (Bt.plain (C := Ms ++ [X]) fun x hx => (List.mem_append.mp hx).elim (pM x) (pls1 h1 x)).fit (by rw [wts_app, wts, wts]; omega) (by rw [depthAll_app, PyData.depthAll, PyData.depthAll]; omega)
    walk_at "R"
    refine lp_by (fun ds ρ => ∃ (s10 : Option Ce) (s5 : Option D), ρ = [some (.scr ns), some (.box false (.L pen)), s2, s3, s4, s5.map Ce.val, s6, some (.val W), some (.val (.tuple Ms)), none, s10, none, none] ∧ ∀ d ∈ ds, ∃ i : Int, d = .int i ∧ 0 ≤ i ∧ i < 7) ?_ ?_ ?_
    · exact ⟨_, s5, rfl, fun d hd => range_ints d hd⟩
    · rintro d ds ρ ⟨s10, s5, rfl, hds⟩ ih
      obtain ⟨i, rfl, i1, i2⟩ := hds _ List.mem_cons_self
      obtain ⟨n, rfl⟩ := Int.eq_ofNat_of_zero_le i1
      walk_at "R"
      have esg : signsD (cutS (Str.ofString "cdefgh") none (some (n : Int))) = (((Str.ofString "cdefgh").cps.toList).take n).map fun c => PyData.str ⟨#[c]⟩ := by unfold signsD; rw [cutS_hi]
      have hcs : ∀ c ∈ ((Str.ofString "cdefgh").cps.toList).take n, c < 1000 := fun c hc => by
        have := List.mem_of_mem_take hc
        rw [show (Str.ofString "cdefgh").cps.toList = [99, 100, 101, 102, 103, 104] by decide +kernel] at this
        simp only [List.mem_cons, List.not_mem_nil, or_false] at this
        omega
      have hcl : (((Str.ofString "cdefgh").cps.toList).take n).length ≤ 6 := by
        rw [show (Str.ofString "cdefgh").cps.toList = [99, 100, 101, 102, 103, 104] by decide +kernel, List.length_take]
        show min n 6 ≤ 6; omega
      rw [esg]
      generalize ((Str.ofString "cdefgh").cps.toList).take n = cs at hcs hcl
      refine lc_list (fun c : Nat => PyData.str ⟨#[c]⟩) (fun c : Nat => PyData.tuple [.str ⟨#[c]⟩, .tuple [.str "never"]]) ?_ (by omega) ?_
      · intro c hc ds acc hacc hnext
        walk_at "R"
        exact hnext
      have pC : Pls (cs.map fun c : Nat => PyData.tuple [.str ⟨#[c]⟩, .tuple [.str "never"]]) := fun d hd => by
        obtain ⟨c, hc, rfl⟩ := List.mem_map.mp hd
        refine Pl.tup.mpr (pls_cons ⟨fun x hx => ?_, rfl, rfl⟩ (pls1 nev))
        have : x = c := by simpa using hx
        have := hcs c hc
        omega
      have wC : wts (cs.map fun c : Nat => PyData.tuple [.str ⟨#[c]⟩, .tuple [.str "never"]]) ≤ 200 * cs.length := by
        clear hcs hcl pC
        induction cs with
        | nil => exact Nat.zero_le _
        | cons c cs ih =>
          rw [List.map_cons, wts, List.length_cons]
          simp only [wts, wt, show ("never" : Str).length = 5 from rfl, show (⟨#[c]⟩ : Str).length = 1 from rfl]
          omega
      have dC : PyData.depthAll (cs.map fun c : Nat => PyData.tuple [.str ⟨#[c]⟩, .tuple [.str "never"]]) ≤ 5 := depthAll_le.mpr fun d hd => by
        obtain ⟨c, hc, rfl⟩ := List.mem_map.mp hd
        simp only [PyData.depth, PyData.depthAll]
        omega
      have lC : Ms.length + (cs.map fun c : Nat => PyData.tuple [.str ⟨#[c]⟩, .tuple [.str "never"]]).length ≤ sizeLine := by rw [List.length_map]; omega
      have fC : Fit (.tuple (Ms ++ cs.map fun c : Nat => PyData.tuple [.str ⟨#[c]⟩, .tuple [.str "never"]])) := (Bt.plain (C := Ms ++ cs.map fun c : Nat => PyData.tuple [.str ⟨#[c]⟩, .tuple [.str "never"]]) fun x hx => (List.mem_append.mp hx).elim (pM x) (pC x)).fit (by rw [wts_app]; omega) (by rw [depthAll_app]; omega)
      walk_at "R"
      refine use_isb fC ?_
      walk_at "R"
      apply rqB.mk (rb _)
      walk_at "R"
      refine use_isb fC ?_
      walk_at "R"
      apply rqB.mk (rb _)
      walk_at "R"
      apply br_nd <;> intro hd
      · exact (hd rfl).elim
      have hmn : [PyData.tuple [PyData.str (Str.ofString "never")]] ≠ [] ∧ (0 : Int) ≤ (n : Int) ∧ (n : Int) ≤ 1000 ∧ [PyData.tuple [PyData.str (Str.ofString "never")]].length ≤ 1000 := ⟨by simp, by omega, by omega, by simp⟩
      have fD : Fit (.tuple (Ms ++ [PyData.tuple [.str "c", .tuple [.str "choice", .tuple (List.replicate ((n : Int)).toNat [PyData.tuple [.str "never"]]).flatten]]])) := by
        have ef : ∀ n : Nat, (List.replicate n [PyData.tuple [.str "never"]]).flatten = List.replicate n (PyData.tuple [.str "never"]) := fun n => by
          induction n with
          | zero => rfl
          | succ n ih => rw [List.replicate_succ, List.flatten_cons, ih, List.replicate_succ]; rfl
        have ww : ∀ n : Nat, wts (List.replicate n (PyData.tuple [.str "never"])) = n * 60 := fun n => by
          induction n with
          | zero => rfl
          | succ n ih =>
            rw [List.replicate_succ, wts, ih]
            simp only [wts, wt, show ("never" : Str).length = 5 from rfl]
            omega
        have pn : Pls (List.replicate n (PyData.tuple [.str "never"])) := fun x hx => by rw [(List.mem_replicate.mp hx).2]; exact nev
        have dn : PyData.depthAll (List.replicate n (PyData.tuple [.str "never"])) ≤ 5 := depthAll_le.mpr fun d hd => by
          rw [(List.mem_replicate.mp hd).2]
          simp only [PyData.depth, PyData.depthAll]; omega
        rw [Int.toNat_natCast, ef]
        have w60 := ww n
        refine fitM _ (Pl.tup.mpr (pls_cons (pl_str (by decide +kernel)) (pls1 (Pl.tup.mpr (pls_cons (pl_str (by decide +kernel)) (pls1 (Pl.tup.mpr pn))))))) ?_ ?_
        · simp only [wt, wts, show ("c" : Str).length = 1 from rfl, show ("choice" : Str).length = 6 from rfl] at *; omega
        · simp only [PyData.depth, PyData.depthAll] at *; omega
      walk_at "R"
      refine use_isb fD ?_
      walk_at "R"
      apply rqB.mk (rb _)
      walk_at "R"
      refine use_isb fD ?_
      walk_at "R"
      apply rqB.mk (rb _)
      walk_at "R"
      apply br_nd <;> intro hd
      · exact (hd rfl).elim
      walk_at "R"
      exact ih _ ⟨_, some _, rfl, fun d h => hds d (List.mem_cons_of_mem _ h)⟩
    · rintro ρ ⟨s10, s5, rfl, _⟩
      have pCC : Pl (PyData.tuple [.str "c", .tuple [.str "row", .tuple (List.replicate (Int.toNat 5) [PyData.tuple [.str "never"]]).flatten]]) := ⟨okDB_ok (by decide +kernel), by decide +kernel, by decide +kernel⟩
      have pDD : Pl (PyData.tuple [.str "d", .tuple [.str "never"]]) := ⟨okDB_ok (by decide +kernel), by decide +kernel, by decide +kernel⟩
      have fitL : ∀ d ∈ [PyData.none, .bool true, .int 7, .str "", .tuple [], .list [], .dict [], .tuple [.tuple [.str "a"]], .tuple [.tuple [.str "a", .tuple [.str "never"]]], .list [.tuple [.str "a", .tuple [.str "never"]]], .tuple [.str "a", .tuple [.str "never"]]] ++ [PyData.tuple (Ms ++ [(PyData.tuple [.str "c", .tuple [.str "row", .tuple (List.replicate (Int.toNat 5) [PyData.tuple [.str "never"]]).flatten]])]), .tuple (Ms ++ [(PyData.tuple [.str "c", .tuple [.str "row", .tuple (List.replicate (Int.toNat 5) [PyData.tuple [.str "never"]]).flatten]])] ++ [(PyData.tuple [.str "d", .tuple [.str "never"]])])], Fit d := by
        intro d hd
        rcases List.mem_append.mp hd with hd | hd
        · refine (constB_ok (n := 3000) (k := 4) ?_).fit (by omega) (by omega)
          have := List.all_eq_true.mp (show ([PyData.none, .bool true, .int 7, .str "", .tuple [], .list [], .dict [], .tuple [.tuple [.str "a"]], .tuple [.tuple [.str "a", .tuple [.str "never"]]], .list [.tuple [.str "a", .tuple [.str "never"]]], .tuple [.str "a", .tuple [.str "never"]]].all fun d => constB 3000 4 d) = true by decide +kernel) d hd
          exact this
        · simp only [List.mem_cons, List.not_mem_nil, or_false] at hd
          rcases hd with rfl | rfl
          · exact fitM _ pCC (by decide +kernel) (by decide +kernel)
          · rw [List.append_assoc]
            have w9 : wts ([(PyData.tuple [.str "c", .tuple [.str "row", .tuple (List.replicate (Int.toNat 5) [PyData.tuple [.str "never"]]).flatten]])] ++ [(PyData.tuple [.str "d", .tuple [.str "never"]])]) ≤ 2000 := by decide +kernel
            have d9 : PyData.depthAll ([(PyData.tuple [.str "c", .tuple [.str "row", .tuple (List.replicate (Int.toNat 5) [PyData.tuple [.str "never"]]).flatten]])] ++ [(PyData.tuple [.str "d", .tuple [.str "never"]])]) ≤ 20 := by decide +kernel
            exact (Bt.plain (C := Ms ++ ([(PyData.tuple [.str "c", .tuple [.str "row", .tuple (List.replicate (Int.toNat 5) [PyData.tuple [.str "never"]]).flatten]])] ++ [(PyData.tuple [.str "d", .tuple [.str "never"]])])) fun x hx => (List.mem_append.mp hx).elim (pM x) (pls_cons pCC (pls1 pDD) x)).fit (by rw [wts_app]; omega) (by rw [depthAll_app]; omega)
      cases s5
      all_goals
        walk_at "R"
        refine lc_id (fun _ => .bool true) (fun d hm ds' acc ha hk => ?_) (by show 13 < sizeLine; omega) ?_
        · walk_at "R"
          refine use_isb (fitL d hm) ?_
          walk_at "R"
          apply rqB.mk (rb _)
          walk_at "R"
          refine use_isb (fitL d hm) ?_
          walk_at "R"
          apply rqB.mk (rb _)
          walk_at "R"
          rw [decide_eq_true rfl]
          exact hk
        · walk_at "R"
          exact hP
end L04
namespace L04
open PySem L2 PyProof.Rows DL L04H
/-- the defs of the module -/
structure All (K : Fg) (mg : Str → Option Value) (fds : Nat → FuncData) : Prop where
  f_is_text : FunD K "is_text" "is_text" (defArgs s_is_text) (defBody s_is_text) (defScope s_is_text) [] [("most", .int (60))] (He.ga K "is_text") (fds 0)
  g_is_text : mg "is_text" = some (.ref (He.ga K "is_text"))
  f_is_signs : FunD K "is_signs" "is_signs" (defArgs s_is_signs) (defBody s_is_signs) (defScope s_is_signs) [] [("least", .int (0))] (He.ga K "is_signs") (fds 1)
  g_is_signs : mg "is_signs" = some (.ref (He.ga K "is_signs"))
  f_is_name : FunD K "is_name" "is_name" (defArgs s_is_name) (defBody s_is_name) (defScope s_is_name) [] [] (He.ga K "is_name") (fds 2)
  g_is_name : mg "is_name" = some (.ref (He.ga K "is_name"))
  f_is_piece : FunD K "is_piece" "is_piece" (defArgs s_is_piece) (defBody s_is_piece) (defScope s_is_piece) [] [] (He.ga K "is_piece") (fds 3)
  g_is_piece : mg "is_piece" = some (.ref (He.ga K "is_piece"))
  f_is_formed : FunD K "is_formed" "is_formed" (defArgs s_is_formed) (defBody s_is_formed) (defScope s_is_formed) [] [] (He.ga K "is_formed") (fds 4)
  g_is_formed : mg "is_formed" = some (.ref (He.ga K "is_formed"))
  f_is_reader : FunD K "is_reader" "is_reader" (defArgs s_is_reader) (defBody s_is_reader) (defScope s_is_reader) [] [] (He.ga K "is_reader") (fds 5)
  g_is_reader : mg "is_reader" = some (.ref (He.ga K "is_reader"))
  f_within : FunD K "within" "within" (defArgs s_within) (defBody s_within) (defScope s_within) [] [] (He.ga K "within") (fds 6)
  g_within : mg "within" = some (.ref (He.ga K "within"))
  f_all_within : FunD K "all_within" "all_within" (defArgs s_all_within) (defBody s_all_within) (defScope s_all_within) [] [] (He.ga K "all_within") (fds 7)
  g_all_within : mg "all_within" = some (.ref (He.ga K "all_within"))
  f_are_named : FunD K "are_named" "are_named" (defArgs s_are_named) (defBody s_are_named) (defScope s_are_named) [] [] (He.ga K "are_named") (fds 8)
  g_are_named : mg "are_named" = some (.ref (He.ga K "are_named"))
  f_is_right : FunD K "is_right" "is_right" (defArgs s_is_right) (defBody s_is_right) (defScope s_is_right) [] [] (He.ga K "is_right") (fds 9)
  g_is_right : mg "is_right" = some (.ref (He.ga K "is_right"))
  f_first_wrong : FunD K "first_wrong" "first_wrong" (defArgs s_first_wrong) (defBody s_first_wrong) (defScope s_first_wrong) [] [] (He.ga K "first_wrong") (fds 10)
  g_first_wrong : mg "first_wrong" = some (.ref (He.ga K "first_wrong"))
  f_parts_of : FunD K "parts_of" "parts_of" (defArgs s_parts_of) (defBody s_parts_of) (defScope s_parts_of) [] [] (He.ga K "parts_of") (fds 11)
  g_parts_of : mg "parts_of" = some (.ref (He.ga K "parts_of"))
  f_is_book : FunD K "is_book" "is_book" (defArgs s_is_book) (defBody s_is_book) (defScope s_is_book) [] [] (He.ga K "is_book") (fds 12)
  g_is_book : mg "is_book" = some (.ref (He.ga K "is_book"))
  f__law_draw : FunD K "_law_draw" "_law_draw" (defArgs s__law_draw) (defBody s__law_draw) (defScope s__law_draw) [] [] (He.ga K "_law_draw") (fds 13)
  g__law_draw : mg "_law_draw" = some (.ref (He.ga K "_law_draw"))
  f__law_all : FunD K "_law_all" "_law_all" (defArgs s__law_all) (defBody s__law_all) (defScope s__law_all) [] [] (He.ga K "_law_all") (fds 14)
  g__law_all : mg "_law_all" = some (.ref (He.ga K "_law_all"))
  f__law_signs : FunD K "_law_signs" "_law_signs" (defArgs s__law_signs) (defBody s__law_signs) (defScope s__law_signs) [] [] (He.ga K "_law_signs") (fds 15)
  g__law_signs : mg "_law_signs" = some (.ref (He.ga K "_law_signs"))
  f__law_names : FunD K "_law_names" "_law_names" (defArgs s__law_names) (defBody s__law_names) (defScope s__law_names) [] [] (He.ga K "_law_names") (fds 16)
  g__law_names : mg "_law_names" = some (.ref (He.ga K "_law_names"))
  f__law_leaf : FunD K "_law_leaf" "_law_leaf" (defArgs s__law_leaf) (defBody s__law_leaf) (defScope s__law_leaf) [] [] (He.ga K "_law_leaf") (fds 17)
  g__law_leaf : mg "_law_leaf" = some (.ref (He.ga K "_law_leaf"))
  f__law_reader : FunD K "_law_reader" "_law_reader" (defArgs s__law_reader) (defBody s__law_reader) (defScope s__law_reader) [] [] (He.ga K "_law_reader") (fds 18)
  g__law_reader : mg "_law_reader" = some (.ref (He.ga K "_law_reader"))
  f__law_book : FunD K "_law_book" "_law_book" (defArgs s__law_book) (defBody s__law_book) (defScope s__law_book) [] [] (He.ga K "_law_book") (fds 19)
  g__law_book : mg "_law_book" = some (.ref (He.ga K "_law_book"))
  f__law_is_signs : FunD K "_law_is_signs" "_law_is_signs" (defArgs s__law_is_signs) (defBody s__law_is_signs) (defScope s__law_is_signs) [] [] (He.ga K "_law_is_signs") (fds 20)
  g__law_is_signs : mg "_law_is_signs" = some (.ref (He.ga K "_law_is_signs"))
  f__law_named : FunD K "_law_named" "_law_named" (defArgs s__law_named) (defBody s__law_named) (defScope s__law_named) [] [] (He.ga K "_law_named") (fds 21)
  g__law_named : mg "_law_named" = some (.ref (He.ga K "_law_named"))
  f__law_is_reader : FunD K "_law_is_reader" "_law_is_reader" (defArgs s__law_is_reader) (defBody s__law_is_reader) (defScope s__law_is_reader) [] [] (He.ga K "_law_is_reader") (fds 22)
  g__law_is_reader : mg "_law_is_reader" = some (.ref (He.ga K "_law_is_reader"))
  f__law_inner : FunD K "_law_inner" "_law_inner" (defArgs s__law_inner) (defBody s__law_inner) (defScope s__law_inner) [] [] (He.ga K "_law_inner") (fds 23)
  g__law_inner : mg "_law_inner" = some (.ref (He.ga K "_law_inner"))
  f__law_parts : FunD K "_law_parts" "_law_parts" (defArgs s__law_parts) (defBody s__law_parts) (defScope s__law_parts) [] [] (He.ga K "_law_parts") (fds 24)
  g__law_parts : mg "_law_parts" = some (.ref (He.ga K "_law_parts"))
  f__law_odd : FunD K "_law_odd" "_law_odd" (defArgs s__law_odd) (defBody s__law_odd) (defScope s__law_odd) [] [] (He.ga K "_law_odd") (fds 25)
  g__law_odd : mg "_law_odd" = some (.ref (He.ga K "_law_odd"))
  f__law_bent : FunD K "_law_bent" "_law_bent" (defArgs s__law_bent) (defBody s__law_bent) (defScope s__law_bent) [] [] (He.ga K "_law_bent") (fds 26)
  g__law_bent : mg "_law_bent" = some (.ref (He.ga K "_law_bent"))
  f__law_is_book : FunD K "_law_is_book" "_law_is_book" (defArgs s__law_is_book) (defBody s__law_is_book) (defScope s__law_is_book) [] [] (He.ga K "_law_is_book") (fds 27)
  g__law_is_book : mg "_law_is_book" = some (.ref (He.ga K "_law_is_book"))
  f__law_spoilt : FunD K "_law_spoilt" "_law_spoilt" (defArgs s__law_spoilt) (defBody s__law_spoilt) (defScope s__law_spoilt) [] [] (He.ga K "_law_spoilt") (fds 28)
  g__law_spoilt : mg "_law_spoilt" = some (.ref (He.ga K "_law_spoilt"))
  f_law : FunD K "law" "law" (defArgs s_law) (defBody s_law) (defScope s_law) [] [] (He.ga K "law") (fds 29)
  g_law : mg "law" = some (.ref (He.ga K "law"))
section
variable {P : Program} {w : World} {K : Fg} {mg : Str → Option Value} {base : Heap} {fds : Nat → FuncData}
theorem b_is_text_1_most (a : All K mg fds) : Bd K (fds 0) ["thing", "most"] 1 ["most"] (pick [(false, 0), (true, 0)]) :=
  Bd.pick a.f_is_text 1 ["most"] _ rfl rfl (fun _ _ _ _ _ _ us ws l1 l2 => match us, ws, l1, l2 with | [_], [_], _, _ => rfl)
theorem b_is_signs_1_least (a : All K mg fds) : Bd K (fds 1) ["thing", "least"] 1 ["least"] (pick [(false, 0), (true, 0)]) :=
  Bd.pick a.f_is_signs 1 ["least"] _ rfl rfl (fun _ _ _ _ _ _ us ws l1 l2 => match us, ws, l1, l2 with | [_], [_], _, _ => rfl)
theorem b_is_signs_1 (a : All K mg fds) : Bd K (fds 1) ["thing", "least"] 1 [] (fun xs zs => pick [(false, 0), (true, 0)] xs (zs ++ [.int 0].map R.val)) :=
  Bd.lack a.f_is_signs 1 [] [("least", .int (0))] _ (by simp) (by simp) (.cons (.int _) (.nil)) rfl rfl (fun _ _ _ _ _ _ us ws mv l1 l2 l3 => match us, ws, mv, l1, l2, l3 with | [_], [], [_], _, _, _ => ⟨_, _, _, _, _, _, rfl, rfl, rfl⟩)
theorem b_is_name_1 (a : All K mg fds) : Bd K (fds 2) ["thing"] 1 [] (pick [(false, 0)]) :=
  Bd.pick a.f_is_name 1 [] _ rfl rfl (fun _ _ _ _ _ _ us ws l1 l2 => match us, ws, l1, l2 with | [_], [], _, _ => rfl)
theorem b_is_formed_2 (a : All K mg fds) : Bd K (fds 4) ["thing", "left"] 2 [] (pick [(false, 0), (false, 1)]) :=
  Bd.pick a.f_is_formed 2 [] _ rfl rfl (fun _ _ _ _ _ _ us ws l1 l2 => match us, ws, l1, l2 with | [_, _], [], _, _ => rfl)
theorem b_is_piece_3 (a : All K mg fds) : Bd K (fds 3) ["form", "thing", "left"] 3 [] (pick [(false, 0), (false, 1), (false, 2)]) :=
  Bd.pick a.f_is_piece 3 [] _ rfl rfl (fun _ _ _ _ _ _ us ws l1 l2 => match us, ws, l1, l2 with | [_, _, _], [], _, _ => rfl)
theorem b_within_1 (a : All K mg fds) : Bd K (fds 6) ["reader"] 1 [] (pick [(false, 0)]) :=
  Bd.pick a.f_within 1 [] _ rfl rfl (fun _ _ _ _ _ _ us ws l1 l2 => match us, ws, l1, l2 with | [_], [], _, _ => rfl)
theorem b_all_within_1 (a : All K mg fds) : Bd K (fds 7) ["reader"] 1 [] (pick [(false, 0)]) :=
  Bd.pick a.f_all_within 1 [] _ rfl rfl (fun _ _ _ _ _ _ us ws l1 l2 => match us, ws, l1, l2 with | [_], [], _, _ => rfl)
theorem b_is_reader_1 (a : All K mg fds) : Bd K (fds 5) ["thing"] 1 [] (pick [(false, 0)]) :=
  Bd.pick a.f_is_reader 1 [] _ rfl rfl (fun _ _ _ _ _ _ us ws l1 l2 => match us, ws, l1, l2 with | [_], [], _, _ => rfl)
theorem b_is_right_2 (a : All K mg fds) : Bd K (fds 9) ["names", "reader"] 2 [] (pick [(false, 0), (false, 1)]) :=
  Bd.pick a.f_is_right 2 [] _ rfl rfl (fun _ _ _ _ _ _ us ws l1 l2 => match us, ws, l1, l2 with | [_, _], [], _, _ => rfl)
theorem b_are_named_1 (a : All K mg fds) : Bd K (fds 8) ["thing"] 1 [] (pick [(false, 0)]) :=
  Bd.pick a.f_are_named 1 [] _ rfl rfl (fun _ _ _ _ _ _ us ws l1 l2 => match us, ws, l1, l2 with | [_], [], _, _ => rfl)
theorem b_first_wrong_1 (a : All K mg fds) : Bd K (fds 10) ["pairs"] 1 [] (pick [(false, 0)]) :=
  Bd.pick a.f_first_wrong 1 [] _ rfl rfl (fun _ _ _ _ _ _ us ws l1 l2 => match us, ws, l1, l2 with | [_], [], _, _ => rfl)
theorem b_parts_of_1 (a : All K mg fds) : Bd K (fds 11) ["book"] 1 [] (pick [(false, 0)]) :=
  Bd.pick a.f_parts_of 1 [] _ rfl rfl (fun _ _ _ _ _ _ us ws l1 l2 => match us, ws, l1, l2 with | [_], [], _, _ => rfl)
theorem b__law_all_0 (a : All K mg fds) : Bd K (fds 14) [] 0 [] (pick []) :=
  Bd.pick a.f__law_all 0 [] _ rfl rfl (fun _ _ _ _ _ _ us ws l1 l2 => match us, ws, l1, l2 with | [], [], _, _ => rfl)
theorem b__law_draw_2 (a : All K mg fds) : Bd K (fds 13) ["_law_pen", "_law_many"] 2 [] (pick [(false, 0), (false, 1)]) :=
  Bd.pick a.f__law_draw 2 [] _ rfl rfl (fun _ _ _ _ _ _ us ws l1 l2 => match us, ws, l1, l2 with | [_, _], [], _, _ => rfl)
theorem b__law_signs_1 (a : All K mg fds) : Bd K (fds 15) ["_law_pen"] 1 [] (pick [(false, 0)]) :=
  Bd.pick a.f__law_signs 1 [] _ rfl rfl (fun _ _ _ _ _ _ us ws l1 l2 => match us, ws, l1, l2 with | [_], [], _, _ => rfl)
theorem b__law_leaf_2 (a : All K mg fds) : Bd K (fds 17) ["_law_pen", "_law_names_here"] 2 [] (pick [(false, 0), (false, 1)]) :=
  Bd.pick a.f__law_leaf 2 [] _ rfl rfl (fun _ _ _ _ _ _ us ws l1 l2 => match us, ws, l1, l2 with | [_, _], [], _, _ => rfl)
theorem b__law_reader_4 (a : All K mg fds) : Bd K (fds 18) ["_law_pen", "_law_names_here", "_law_deep", "_law_left"] 4 [] (pick [(false, 0), (false, 1), (false, 2), (false, 3)]) :=
  Bd.pick a.f__law_reader 4 [] _ rfl rfl (fun _ _ _ _ _ _ us ws l1 l2 => match us, ws, l1, l2 with | [_, _, _, _], [], _, _ => rfl)
theorem b__law_names_2 (a : All K mg fds) : Bd K (fds 16) ["_law_pen", "_law_many"] 2 [] (pick [(false, 0), (false, 1)]) :=
  Bd.pick a.f__law_names 2 [] _ rfl rfl (fun _ _ _ _ _ _ us ws l1 l2 => match us, ws, l1, l2 with | [_, _], [], _, _ => rfl)
theorem b__law_is_signs_2 (a : All K mg fds) : Bd K (fds 20) ["_law_some", "_law_least"] 2 [] (pick [(false, 0), (false, 1)]) :=
  Bd.pick a.f__law_is_signs 2 [] _ rfl rfl (fun _ _ _ _ _ _ us ws l1 l2 => match us, ws, l1, l2 with | [_, _], [], _, _ => rfl)
theorem b__law_named_1 (a : All K mg fds) : Bd K (fds 21) ["_law_some"] 1 [] (pick [(false, 0)]) :=
  Bd.pick a.f__law_named 1 [] _ rfl rfl (fun _ _ _ _ _ _ us ws l1 l2 => match us, ws, l1, l2 with | [_], [], _, _ => rfl)
theorem b__law_is_reader_2 (a : All K mg fds) : Bd K (fds 22) ["_law_some", "_law_left"] 2 [] (pick [(false, 0), (false, 1)]) :=
  Bd.pick a.f__law_is_reader 2 [] _ rfl rfl (fun _ _ _ _ _ _ us ws l1 l2 => match us, ws, l1, l2 with | [_, _], [], _, _ => rfl)
theorem b__law_inner_1 (a : All K mg fds) : Bd K (fds 23) ["_law_reader_here"] 1 [] (pick [(false, 0)]) :=
  Bd.pick a.f__law_inner 1 [] _ rfl rfl (fun _ _ _ _ _ _ us ws l1 l2 => match us, ws, l1, l2 with | [_], [], _, _ => rfl)
theorem b__law_parts_1 (a : All K mg fds) : Bd K (fds 24) ["_law_reader_here"] 1 [] (pick [(false, 0)]) :=
  Bd.pick a.f__law_parts 1 [] _ rfl rfl (fun _ _ _ _ _ _ us ws l1 l2 => match us, ws, l1, l2 with | [_], [], _, _ => rfl)
theorem b__law_bent_2 (a : All K mg fds) : Bd K (fds 26) ["_law_pen", "_law_some"] 2 [] (pick [(false, 0), (false, 1)]) :=
  Bd.pick a.f__law_bent 2 [] _ rfl rfl (fun _ _ _ _ _ _ us ws l1 l2 => match us, ws, l1, l2 with | [_, _], [], _, _ => rfl)
theorem b__law_odd_2 (a : All K mg fds) : Bd K (fds 25) ["_law_pen", "_law_some"] 2 [] (pick [(false, 0), (false, 1)]) :=
  Bd.pick a.f__law_odd 2 [] _ rfl rfl (fun _ _ _ _ _ _ us ws l1 l2 => match us, ws, l1, l2 with | [_, _], [], _, _ => rfl)
theorem b__law_book_2 (a : All K mg fds) : Bd K (fds 19) ["_law_pen", "_law_most"] 2 [] (pick [(false, 0), (false, 1)]) :=
  Bd.pick a.f__law_book 2 [] _ rfl rfl (fun _ _ _ _ _ _ us ws l1 l2 => match us, ws, l1, l2 with | [_, _], [], _, _ => rfl)
theorem b_is_book_1 (a : All K mg fds) : Bd K (fds 12) ["thing"] 1 [] (pick [(false, 0)]) :=
  Bd.pick a.f_is_book 1 [] _ rfl rfl (fun _ _ _ _ _ _ us ws l1 l2 => match us, ws, l1, l2 with | [_], [], _, _ => rfl)
theorem b__law_is_book_1 (a : All K mg fds) : Bd K (fds 27) ["_law_some"] 1 [] (pick [(false, 0)]) :=
  Bd.pick a.f__law_is_book 1 [] _ rfl rfl (fun _ _ _ _ _ _ us ws l1 l2 => match us, ws, l1, l2 with | [_], [], _, _ => rfl)
theorem b__law_spoilt_2 (a : All K mg fds) : Bd K (fds 28) ["_law_pen", "_law_book_here"] 2 [] (pick [(false, 0), (false, 1)]) :=
  Bd.pick a.f__law_spoilt 2 [] _ rfl rfl (fun _ _ _ _ _ _ us ws l1 l2 => match us, ws, l1, l2 with | [_, _], [], _, _ => rfl)
theorem b_is_book_0_thing (a : All K mg fds) : Bd K (fds 12) ["thing"] 0 ["thing"] (pick [(true, 0)]) :=
  Bd.pick a.f_is_book 0 ["thing"] _ rfl rfl (fun _ _ _ _ _ _ us ws l1 l2 => match us, ws, l1, l2 with | [], [_], _, _ => rfl)
theorem t_is_text (g : Gb w K mg) (a : All K mg fds) : FnD P w K mg base (1) (He.ga K "is_text") (fds 0) ["thing", "most"] (c_text) :=
  FnD.imp (fnd_def (k := 0) a.f_is_text sc_is_text fun cdv A outer s H E hr hgu => d_is_text g hr hgu) w_text
theorem t_is_signs (g : Gb w K mg) (a : All K mg fds) : FnD P w K mg base (2) (He.ga K "is_signs") (fds 1) ["thing", "least"] (c_sgn) :=
  FnD.imp (fnd_def (k := 1) a.f_is_signs sc_is_signs fun cdv A outer s H E hr hgu => d_is_signs g (Def.of a.g_is_text a.f_is_text.kp (FnD.mono (t_is_text (P := P) (base := base) g a) (by omega)) (b_is_text_1_most a)) hr hgu) w_sgn
theorem t_is_name (g : Gb w K mg) (a : All K mg fds) : FnD P w K mg base (1) (He.ga K "is_name") (fds 2) ["thing"] (c_name) :=
  FnD.imp (fnd_def (k := 0) a.f_is_name sc_is_name fun cdv A outer s H E hr hgu => d_is_name g hr hgu) w_name
theorem t_form (g : Gb w K mg) (a : All K mg fds) : ∀ n : Nat, FnD P w K mg base (2 + 2 * n + 1) (He.ga K "is_formed") (fds 4) ["thing", "left"] (c_formed n) ∧ FnD P w K mg base (2 + 2 * n + 2) (He.ga K "is_piece") (fds 3) ["form", "thing", "left"] (c_piece n)
  | 0 => by
    have j_is_formed : FnD P w K mg base (2 + 2 * 0 + 1) (He.ga K "is_formed") (fds 4) ["thing", "left"] (c_formed 0) := FnD.never n_formed
    have j_is_piece : FnD P w K mg base (2 + 2 * 0 + 2) (He.ga K "is_piece") (fds 3) ["form", "thing", "left"] (c_piece 0) := FnD.imp (fnd_def (k := 2 + 2 * 0 + 1) a.f_is_piece sc_is_piece fun cdv A outer s H E hr hgu => d_is_piece g (Def.of a.g_is_signs a.f_is_signs.kp (FnD.mono (t_is_signs (P := P) (base := base) g a) (by omega)) (b_is_signs_1_least a)) (Def.of a.g_is_signs a.f_is_signs.kp (FnD.mono (t_is_signs (P := P) (base := base) g a) (by omega)) (b_is_signs_1 a)) (Def.of a.g_is_name a.f_is_name.kp (FnD.mono (t_is_name (P := P) (base := base) g a) (by omega)) (b_is_name_1 a)) (Def.of a.g_is_formed a.f_is_formed.kp (FnD.mono (j_is_formed) (by omega)) (b_is_formed_2 a)) hr hgu) (w_piece 0)
    exact ⟨j_is_formed, j_is_piece⟩
  | n + 1 => by
    have ih := t_form g a n
    have i_is_formed := ih.1
    have i_is_piece := ih.2
    have j_is_formed : FnD P w K mg base (2 + 2 * (n + 1) + 1) (He.ga K "is_formed") (fds 4) ["thing", "left"] (c_formed (n + 1)) := FnD.imp (fnd_def (k := 2 + 2 * (n + 1) + 0) a.f_is_formed sc_is_formed fun cdv A outer s H E hr hgu => d_is_formed g (Def.of a.g_is_piece a.f_is_piece.kp (FnD.mono (i_is_piece) (by omega)) (b_is_piece_3 a)) hr hgu) (w_formed n)
    have j_is_piece : FnD P w K mg base (2 + 2 * (n + 1) + 2) (He.ga K "is_piece") (fds 3) ["form", "thing", "left"] (c_piece (n + 1)) := FnD.imp (fnd_def (k := 2 + 2 * (n + 1) + 1) a.f_is_piece sc_is_piece fun cdv A outer s H E hr hgu => d_is_piece g (Def.of a.g_is_signs a.f_is_signs.kp (FnD.mono (t_is_signs (P := P) (base := base) g a) (by omega)) (b_is_signs_1_least a)) (Def.of a.g_is_signs a.f_is_signs.kp (FnD.mono (t_is_signs (P := P) (base := base) g a) (by omega)) (b_is_signs_1 a)) (Def.of a.g_is_name a.f_is_name.kp (FnD.mono (t_is_name (P := P) (base := base) g a) (by omega)) (b_is_name_1 a)) (Def.of a.g_is_formed a.f_is_formed.kp (FnD.mono (j_is_formed) (by omega)) (b_is_formed_2 a)) hr hgu) (w_piece (n + 1))
    exact ⟨j_is_formed, j_is_piece⟩
theorem t_is_reader (g : Gb w K mg) (a : All K mg fds) : FnD P w K mg base (23) (He.ga K "is_reader") (fds 5) ["thing"] (c_reader) :=
  FnD.imp (fnd_def (k := 22) a.f_is_reader sc_is_reader fun cdv A outer s H E hr hgu => d_is_reader g (Def.of a.g_is_formed a.f_is_formed.kp (FnD.mono ((t_form (P := P) (base := base) g a 9).1) (by omega)) (b_is_formed_2 a)) hr hgu) w_reader
theorem t_within (g : Gb w K mg) (a : All K mg fds) : FnD P w K mg base (1) (He.ga K "within") (fds 6) ["reader"] (c_within) :=
  FnD.imp (fnd_def (k := 0) a.f_within sc_within fun cdv A outer s H E hr hgu => d_within g hr hgu) w_within
theorem t_aw (g : Gb w K mg) (a : All K mg fds) : ∀ n : Nat, FnD P w K mg base (1 + 1 * n + 1) (He.ga K "all_within") (fds 7) ["reader"] (c_aw n)
  | 0 => by
    have j_all_within : FnD P w K mg base (1 + 1 * 0 + 1) (He.ga K "all_within") (fds 7) ["reader"] (c_aw 0) := FnD.never n_aw
    exact j_all_within
  | n + 1 => by
    have ih := t_aw g a n
    have i_all_within := ih
    have j_all_within : FnD P w K mg base (1 + 1 * (n + 1) + 1) (He.ga K "all_within") (fds 7) ["reader"] (c_aw (n + 1)) := FnD.imp (fnd_def (k := 1 + 1 * (n + 1) + 0) a.f_all_within sc_all_within fun cdv A outer s H E hr hgu => d_all_within g (Def.of a.g_within a.f_within.kp (FnD.mono (t_within (P := P) (base := base) g a) (by omega)) (b_within_1 a)) (Def.of a.g_all_within a.f_all_within.kp (FnD.mono (i_all_within) (by omega)) (b_all_within_1 a)) hr hgu) (w_aw n)
    exact j_all_within
theorem t_are_named (g : Gb w K mg) (a : All K mg fds) : FnD P w K mg base (2) (He.ga K "are_named") (fds 8) ["thing"] (c_named) :=
  FnD.imp (fnd_def (k := 1) a.f_are_named sc_are_named fun cdv A outer s H E hr hgu => d_are_named g (Def.of a.g_is_name a.f_is_name.kp (FnD.mono (t_is_name (P := P) (base := base) g a) (by omega)) (b_is_name_1 a)) hr hgu) w_named
theorem t_is_right (g : Gb w K mg) (a : All K mg fds) : FnD P w K mg base (24) (He.ga K "is_right") (fds 9) ["names", "reader"] (c_right) :=
  FnD.imp (fnd_def (k := 23) a.f_is_right sc_is_right fun cdv A outer s H E hr hgu => d_is_right g (Def.of a.g_is_reader a.f_is_reader.kp (FnD.mono (t_is_reader (P := P) (base := base) g a) (by omega)) (b_is_reader_1 a)) (Def.of a.g_all_within a.f_all_within.kp (FnD.mono ((t_aw (P := P) (base := base) g a 8)) (by omega)) (b_all_within_1 a)) hr hgu) w_right
theorem t_first_wrong (g : Gb w K mg) (a : All K mg fds) : FnD P w K mg base (25) (He.ga K "first_wrong") (fds 10) ["pairs"] (c_wrong) :=
  FnD.imp (fnd_def (k := 24) a.f_first_wrong sc_first_wrong fun cdv A outer s H E hr hgu => d_first_wrong g (Def.of a.g_is_right a.f_is_right.kp (FnD.mono (t_is_right (P := P) (base := base) g a) (by omega)) (b_is_right_2 a)) hr hgu) w_wrong
theorem t_parts_of (g : Gb w K mg) (a : All K mg fds) : FnD P w K mg base (11) (He.ga K "parts_of") (fds 11) ["book"] (c_parts) :=
  FnD.imp (fnd_def (k := 10) a.f_parts_of sc_parts_of fun cdv A outer s H E hr hgu => d_parts_of g (Def.of a.g_all_within a.f_all_within.kp (FnD.mono ((t_aw (P := P) (base := base) g a 8)) (by omega)) (b_all_within_1 a)) hr hgu) w_parts
theorem t_is_book (g : Gb w K mg) (a : All K mg fds) : FnD P w K mg base (26) (He.ga K "is_book") (fds 12) ["thing"] (c_isb) :=
  FnD.imp (fnd_def (k := 25) a.f_is_book sc_is_book fun cdv A outer s H E hr hgu => d_is_book g (Def.of a.g_are_named a.f_are_named.kp (FnD.mono (t_are_named (P := P) (base := base) g a) (by omega)) (b_are_named_1 a)) (Def.of a.g_first_wrong a.f_first_wrong.kp (FnD.mono (t_first_wrong (P := P) (base := base) g a) (by omega)) (b_first_wrong_1 a)) (Def.of a.g_parts_of a.f_parts_of.kp (FnD.mono (t_parts_of (P := P) (base := base) g a) (by omega)) (b_parts_of_1 a)) hr hgu) w_isb
theorem t__law_draw (g : Gb w K mg) (a : All K mg fds) : FnD P w K mg base (1) (He.ga K "_law_draw") (fds 13) ["_law_pen", "_law_many"] (c_draw) :=
  FnD.imp (fnd_def (k := 0) a.f__law_draw sc__law_draw fun cdv A outer s H E hr hgu => d__law_draw g hr hgu) w_draw
theorem t__law_all (g : Gb w K mg) (a : All K mg fds) : FnD P w K mg base (1) (He.ga K "_law_all") (fds 14) [] (c_all) :=
  FnD.imp (fnd_def (k := 0) a.f__law_all sc__law_all fun cdv A outer s H E hr hgu => d__law_all g hr hgu) w_all
theorem t__law_signs (g : Gb w K mg) (a : All K mg fds) : FnD P w K mg base (2) (He.ga K "_law_signs") (fds 15) ["_law_pen"] (c_signs) :=
  FnD.imp (fnd_def (k := 1) a.f__law_signs sc__law_signs fun cdv A outer s H E hr hgu => d__law_signs g (Def.of a.g__law_all a.f__law_all.kp (FnD.mono (t__law_all (P := P) (base := base) g a) (by omega)) (b__law_all_0 a)) (Def.of a.g__law_draw a.f__law_draw.kp (FnD.mono (t__law_draw (P := P) (base := base) g a) (by omega)) (b__law_draw_2 a)) hr hgu) w_signs
theorem t__law_names (g : Gb w K mg) (a : All K mg fds) : FnD P w K mg base (2) (He.ga K "_law_names") (fds 16) ["_law_pen", "_law_many"] (c_names) :=
  FnD.imp (fnd_def (k := 1) a.f__law_names sc__law_names fun cdv A outer s H E hr hgu => d__law_names g (Def.of a.g__law_draw a.f__law_draw.kp (FnD.mono (t__law_draw (P := P) (base := base) g a) (by omega)) (b__law_draw_2 a)) hr hgu) w_names
theorem t__law_leaf (g : Gb w K mg) (a : All K mg fds) : FnD P w K mg base (3) (He.ga K "_law_leaf") (fds 17) ["_law_pen", "_law_names_here"] (c_leaf) :=
  FnD.imp (fnd_def (k := 2) a.f__law_leaf sc__law_leaf fun cdv A outer s H E hr hgu => d__law_leaf g (Def.of a.g__law_draw a.f__law_draw.kp (FnD.mono (t__law_draw (P := P) (base := base) g a) (by omega)) (b__law_draw_2 a)) (Def.of a.g__law_signs a.f__law_signs.kp (FnD.mono (t__law_signs (P := P) (base := base) g a) (by omega)) (b__law_signs_1 a)) hr hgu) w_leaf
theorem t_rd (g : Gb w K mg) (a : All K mg fds) : ∀ n : Nat, FnD P w K mg base (3 + 1 * n + 1) (He.ga K "_law_reader") (fds 18) ["_law_pen", "_law_names_here", "_law_deep", "_law_left"] (c_rd n)
  | 0 => by
    have j__law_reader : FnD P w K mg base (3 + 1 * 0 + 1) (He.ga K "_law_reader") (fds 18) ["_law_pen", "_law_names_here", "_law_deep", "_law_left"] (c_rd 0) := FnD.never n_rd
    exact j__law_reader
  | n + 1 => by
    have ih := t_rd g a n
    have i__law_reader := ih
    have j__law_reader : FnD P w K mg base (3 + 1 * (n + 1) + 1) (He.ga K "_law_reader") (fds 18) ["_law_pen", "_law_names_here", "_law_deep", "_law_left"] (c_rd (n + 1)) := FnD.imp (fnd_def (k := 3 + 1 * (n + 1) + 0) a.f__law_reader sc__law_reader fun cdv A outer s H E hr hgu => d__law_reader g (Def.of a.g__law_draw a.f__law_draw.kp (FnD.mono (t__law_draw (P := P) (base := base) g a) (by omega)) (b__law_draw_2 a)) (Def.of a.g__law_leaf a.f__law_leaf.kp (FnD.mono (t__law_leaf (P := P) (base := base) g a) (by omega)) (b__law_leaf_2 a)) (Def.of a.g__law_reader a.f__law_reader.kp (FnD.mono (i__law_reader) (by omega)) (b__law_reader_4 a)) hr hgu) (w_rd n)
    exact j__law_reader
theorem t__law_book (g : Gb w K mg) (a : All K mg fds) : FnD P w K mg base (13) (He.ga K "_law_book") (fds 19) ["_law_pen", "_law_most"] (c_bk6) :=
  FnD.imp (fnd_def (k := 12) a.f__law_book sc__law_book fun cdv A outer s H E hr hgu => d__law_book g (Def.of a.g__law_names a.f__law_names.kp (FnD.mono (t__law_names (P := P) (base := base) g a) (by omega)) (b__law_names_2 a)) (Def.of a.g__law_draw a.f__law_draw.kp (FnD.mono (t__law_draw (P := P) (base := base) g a) (by omega)) (b__law_draw_2 a)) (Def.of a.g__law_reader a.f__law_reader.kp (FnD.mono ((t_rd (P := P) (base := base) g a 8)) (by omega)) (b__law_reader_4 a)) hr hgu) w_bk6
theorem t__law_is_signs (g : Gb w K mg) (a : All K mg fds) : FnD P w K mg base (2) (He.ga K "_law_is_signs") (fds 20) ["_law_some", "_law_least"] (c_sgn) :=
  FnD.imp (fnd_def (k := 1) a.f__law_is_signs sc__law_is_signs fun cdv A outer s H E hr hgu => d__law_is_signs g (Def.of a.g__law_all a.f__law_all.kp (FnD.mono (t__law_all (P := P) (base := base) g a) (by omega)) (b__law_all_0 a)) hr hgu) w_lsigns
theorem t__law_named (g : Gb w K mg) (a : All K mg fds) : FnD P w K mg base (1) (He.ga K "_law_named") (fds 21) ["_law_some"] (c_name) :=
  FnD.imp (fnd_def (k := 0) a.f__law_named sc__law_named fun cdv A outer s H E hr hgu => d__law_named g hr hgu) w_lnamed
theorem t_lrd (g : Gb w K mg) (a : All K mg fds) : ∀ n : Nat, FnD P w K mg base (2 + 1 * n + 1) (He.ga K "_law_is_reader") (fds 22) ["_law_some", "_law_left"] (c_formed n)
  | 0 => by
    have j__law_is_reader : FnD P w K mg base (2 + 1 * 0 + 1) (He.ga K "_law_is_reader") (fds 22) ["_law_some", "_law_left"] (c_formed 0) := FnD.never n_formed
    exact j__law_is_reader
  | n + 1 => by
    have ih := t_lrd g a n
    have i__law_is_reader := ih
    have j__law_is_reader : FnD P w K mg base (2 + 1 * (n + 1) + 1) (He.ga K "_law_is_reader") (fds 22) ["_law_some", "_law_left"] (c_formed (n + 1)) := FnD.imp (fnd_def (k := 2 + 1 * (n + 1) + 0) a.f__law_is_reader sc__law_is_reader fun cdv A outer s H E hr hgu => d__law_is_reader g (Def.of a.g__law_is_signs a.f__law_is_signs.kp (FnD.mono (t__law_is_signs (P := P) (base := base) g a) (by omega)) (b__law_is_signs_2 a)) (Def.of a.g__law_named a.f__law_named.kp (FnD.mono (t__law_named (P := P) (base := base) g a) (by omega)) (b__law_named_1 a)) (Def.of a.g__law_is_reader a.f__law_is_reader.kp (FnD.mono (i__law_is_reader) (by omega)) (b__law_is_reader_2 a)) hr hgu) (w_lrd n)
    exact j__law_is_reader
theorem t__law_inner (g : Gb w K mg) (a : All K mg fds) : FnD P w K mg base (1) (He.ga K "_law_inner") (fds 23) ["_law_reader_here"] (c_within) :=
  FnD.imp (fnd_def (k := 0) a.f__law_inner sc__law_inner fun cdv A outer s H E hr hgu => d__law_inner g hr hgu) w_inner
theorem t_lp (g : Gb w K mg) (a : All K mg fds) : ∀ n : Nat, FnD P w K mg base (1 + 1 * n + 1) (He.ga K "_law_parts") (fds 24) ["_law_reader_here"] (c_aw n)
  | 0 => by
    have j__law_parts : FnD P w K mg base (1 + 1 * 0 + 1) (He.ga K "_law_parts") (fds 24) ["_law_reader_here"] (c_aw 0) := FnD.never n_aw
    exact j__law_parts
  | n + 1 => by
    have ih := t_lp g a n
    have i__law_parts := ih
    have j__law_parts : FnD P w K mg base (1 + 1 * (n + 1) + 1) (He.ga K "_law_parts") (fds 24) ["_law_reader_here"] (c_aw (n + 1)) := FnD.imp (fnd_def (k := 1 + 1 * (n + 1) + 0) a.f__law_parts sc__law_parts fun cdv A outer s H E hr hgu => d__law_parts g (Def.of a.g__law_inner a.f__law_inner.kp (FnD.mono (t__law_inner (P := P) (base := base) g a) (by omega)) (b__law_inner_1 a)) (Def.of a.g__law_parts a.f__law_parts.kp (FnD.mono (i__law_parts) (by omega)) (b__law_parts_1 a)) hr hgu) (w_lparts n)
    exact j__law_parts
theorem t__law_odd (g : Gb w K mg) (a : All K mg fds) : FnD P w K mg base (2) (He.ga K "_law_odd") (fds 25) ["_law_pen", "_law_some"] (c_odd) :=
  FnD.imp (fnd_def (k := 1) a.f__law_odd sc__law_odd fun cdv A outer s H E hr hgu => d__law_odd g (Def.of a.g__law_all a.f__law_all.kp (FnD.mono (t__law_all (P := P) (base := base) g a) (by omega)) (b__law_all_0 a)) (Def.of a.g__law_draw a.f__law_draw.kp (FnD.mono (t__law_draw (P := P) (base := base) g a) (by omega)) (b__law_draw_2 a)) hr hgu) w_odd
theorem t_bent (g : Gb w K mg) (a : All K mg fds) : ∀ n : Nat, FnD P w K mg base (2 + 1 * n + 1) (He.ga K "_law_bent") (fds 26) ["_law_pen", "_law_some"] (c_bent n)
  | 0 => by
    have j__law_bent : FnD P w K mg base (2 + 1 * 0 + 1) (He.ga K "_law_bent") (fds 26) ["_law_pen", "_law_some"] (c_bent 0) := FnD.never n_bent
    exact j__law_bent
  | n + 1 => by
    have ih := t_bent g a n
    have i__law_bent := ih
    have j__law_bent : FnD P w K mg base (2 + 1 * (n + 1) + 1) (He.ga K "_law_bent") (fds 26) ["_law_pen", "_law_some"] (c_bent (n + 1)) := FnD.imp (fnd_def (k := 2 + 1 * (n + 1) + 0) a.f__law_bent sc__law_bent fun cdv A outer s H E hr hgu => d__law_bent g (Def.of a.g__law_inner a.f__law_inner.kp (FnD.mono (t__law_inner (P := P) (base := base) g a) (by omega)) (b__law_inner_1 a)) (Def.of a.g__law_draw a.f__law_draw.kp (FnD.mono (t__law_draw (P := P) (base := base) g a) (by omega)) (b__law_draw_2 a)) (Def.of a.g__law_bent a.f__law_bent.kp (FnD.mono (i__law_bent) (by omega)) (b__law_bent_2 a)) (Def.of a.g__law_odd a.f__law_odd.kp (FnD.mono (t__law_odd (P := P) (base := base) g a) (by omega)) (b__law_odd_2 a)) hr hgu) (w_bent n)
    exact j__law_bent
theorem t__law_is_book (g : Gb w K mg) (a : All K mg fds) : FnD P w K mg base (13) (He.ga K "_law_is_book") (fds 27) ["_law_some"] (c_isb) :=
  FnD.imp (fnd_def (k := 12) a.f__law_is_book sc__law_is_book fun cdv A outer s H E hr hgu => d__law_is_book g (Def.of a.g__law_named a.f__law_named.kp (FnD.mono (t__law_named (P := P) (base := base) g a) (by omega)) (b__law_named_1 a)) (Def.of a.g__law_is_reader a.f__law_is_reader.kp (FnD.mono ((t_lrd (P := P) (base := base) g a 9)) (by omega)) (b__law_is_reader_2 a)) (Def.of a.g__law_parts a.f__law_parts.kp (FnD.mono ((t_lp (P := P) (base := base) g a 8)) (by omega)) (b__law_parts_1 a)) hr hgu) w_lisb
theorem t__law_spoilt (g : Gb w K mg) (a : All K mg fds) : FnD P w K mg base (12) (He.ga K "_law_spoilt") (fds 28) ["_law_pen", "_law_book_here"] (c_sp4) :=
  FnD.imp (fnd_def (k := 11) a.f__law_spoilt sc__law_spoilt fun cdv A outer s H E hr hgu => d__law_spoilt g (Def.of a.g__law_draw a.f__law_draw.kp (FnD.mono (t__law_draw (P := P) (base := base) g a) (by omega)) (b__law_draw_2 a)) (Def.of a.g__law_bent a.f__law_bent.kp (FnD.mono ((t_bent (P := P) (base := base) g a 8)) (by omega)) (b__law_bent_2 a)) hr hgu) w_sp4
theorem t_law (g : Gb w K mg) (a : All K mg fds) : FnD P w K mg base (27) (He.ga K "law") (fds 29) ["_law_script"] (c_law) :=
  FnD.imp (fnd_def (k := 26) a.f_law sc_law fun cdv A outer s H E hr hgu => d_law g (Def.of a.g__law_book a.f__law_book.kp (FnD.mono (t__law_book (P := P) (base := base) g a) (by omega)) (b__law_book_2 a)) (Def.of a.g__law_draw a.f__law_draw.kp (FnD.mono (t__law_draw (P := P) (base := base) g a) (by omega)) (b__law_draw_2 a)) (Def.of a.g_is_book a.f_is_book.kp (FnD.mono (t_is_book (P := P) (base := base) g a) (by omega)) (b_is_book_1 a)) (Def.of a.g__law_is_book a.f__law_is_book.kp (FnD.mono (t__law_is_book (P := P) (base := base) g a) (by omega)) (b__law_is_book_1 a)) (Def.of a.g__law_spoilt a.f__law_spoilt.kp (FnD.mono (t__law_spoilt (P := P) (base := base) g a) (by omega)) (b__law_spoilt_2 a)) (Def.of a.g_is_book a.f_is_book.kp (FnD.mono (t_is_book (P := P) (base := base) g a) (by omega)) (b_is_book_0_thing a)) hr hgu) w_law
end
theorem facts {P : Program} {w : World} {K : Fg} {h : Heap} {mg : Str → Option Value} {f : Addr} (X : K.In h) (G : h.Ns mainGlobals mg) (hfa : mg ("law" : Str) = some (.ref f)) (c : SaysX fa fn cs ts w K) :
    ∃ fd : FuncData, (∀ (s : Shared) (v : Value), BindsTo s fd ⟨[v], []⟩ [("_law_script", v)]) ∧ ∀ base : Heap, K.In base → base.Ns mainGlobals mg → FnD P w K mg base 27 f fd ["_law_script"] c_law := by
  obtain ⟨fd0, F0⟩ := c.defs.def_ 0 rfl
  obtain ⟨fd1, F1⟩ := c.defs.def_ 1 rfl
  obtain ⟨fd2, F2⟩ := c.defs.def_ 2 rfl
  obtain ⟨fd3, F3⟩ := c.defs.def_ 3 rfl
  obtain ⟨fd4, F4⟩ := c.defs.def_ 4 rfl
  obtain ⟨fd5, F5⟩ := c.defs.def_ 5 rfl
  obtain ⟨fd6, F6⟩ := c.defs.def_ 6 rfl
  obtain ⟨fd7, F7⟩ := c.defs.def_ 7 rfl
  obtain ⟨fd8, F8⟩ := c.defs.def_ 8 rfl
  obtain ⟨fd9, F9⟩ := c.defs.def_ 9 rfl
  obtain ⟨fd10, F10⟩ := c.defs.def_ 10 rfl
  obtain ⟨fd11, F11⟩ := c.defs.def_ 11 rfl
  obtain ⟨fd12, F12⟩ := c.defs.def_ 12 rfl
  obtain ⟨fd13, F13⟩ := c.defs.def_ 13 rfl
  obtain ⟨fd14, F14⟩ := c.defs.def_ 14 rfl
  obtain ⟨fd15, F15⟩ := c.defs.def_ 15 rfl
  obtain ⟨fd16, F16⟩ := c.defs.def_ 16 rfl
  obtain ⟨fd17, F17⟩ := c.defs.def_ 17 rfl
  obtain ⟨fd18, F18⟩ := c.defs.def_ 18 rfl
  obtain ⟨fd19, F19⟩ := c.defs.def_ 19 rfl
  obtain ⟨fd20, F20⟩ := c.defs.def_ 20 rfl
  obtain ⟨fd21, F21⟩ := c.defs.def_ 21 rfl
  obtain ⟨fd22, F22⟩ := c.defs.def_ 22 rfl
  obtain ⟨fd23, F23⟩ := c.defs.def_ 23 rfl
  obtain ⟨fd24, F24⟩ := c.defs.def_ 24 rfl
  obtain ⟨fd25, F25⟩ := c.defs.def_ 25 rfl
  obtain ⟨fd26, F26⟩ := c.defs.def_ 26 rfl
  obtain ⟨fd27, F27⟩ := c.defs.def_ 27 rfl
  obtain ⟨fd28, F28⟩ := c.defs.def_ 28 rfl
  obtain ⟨fd29, F29⟩ := c.defs.def_ 29 rfl
  have a : All K mg (fun i => [fd0, fd1, fd2, fd3, fd4, fd5, fd6, fd7, fd8, fd9, fd10, fd11, fd12, fd13, fd14, fd15, fd16, fd17, fd18, fd19, fd20, fd21, fd22, fd23, fd24, fd25, fd26, fd27, fd28, fd29].getD i fd0) := ⟨F0, He.glo_ok X G (c.defs.fact 0 rfl), F1, He.glo_ok X G (c.defs.fact 1 rfl), F2, He.glo_ok X G (c.defs.fact 2 rfl), F3, He.glo_ok X G (c.defs.fact 3 rfl), F4, He.glo_ok X G (c.defs.fact 4 rfl), F5, He.glo_ok X G (c.defs.fact 5 rfl), F6, He.glo_ok X G (c.defs.fact 6 rfl), F7, He.glo_ok X G (c.defs.fact 7 rfl), F8, He.glo_ok X G (c.defs.fact 8 rfl), F9, He.glo_ok X G (c.defs.fact 9 rfl), F10, He.glo_ok X G (c.defs.fact 10 rfl), F11, He.glo_ok X G (c.defs.fact 11 rfl), F12, He.glo_ok X G (c.defs.fact 12 rfl), F13, He.glo_ok X G (c.defs.fact 13 rfl), F14, He.glo_ok X G (c.defs.fact 14 rfl), F15, He.glo_ok X G (c.defs.fact 15 rfl), F16, He.glo_ok X G (c.defs.fact 16 rfl), F17, He.glo_ok X G (c.defs.fact 17 rfl), F18, He.glo_ok X G (c.defs.fact 18 rfl), F19, He.glo_ok X G (c.defs.fact 19 rfl), F20, He.glo_ok X G (c.defs.fact 20 rfl), F21, He.glo_ok X G (c.defs.fact 21 rfl), F22, He.glo_ok X G (c.defs.fact 22 rfl), F23, He.glo_ok X G (c.defs.fact 23 rfl), F24, He.glo_ok X G (c.defs.fact 24 rfl), F25, He.glo_ok X G (c.defs.fact 25 rfl), F26, He.glo_ok X G (c.defs.fact 26 rfl), F27, He.glo_ok X G (c.defs.fact 27 rfl), F28, He.glo_ok X G (c.defs.fact 28 rfl), F29, He.glo_ok X G (c.defs.fact 29 rfl)⟩
  have g : Gb w K mg := ⟨He.free_ok X G (c.defs.fact 30 rfl), He.free_ok X G (c.defs.fact 31 rfl), He.free_ok X G (c.defs.fact 32 rfl), He.free_ok X G (c.defs.fact 33 rfl), He.free_ok X G (c.defs.fact 34 rfl), He.free_ok X G (c.defs.fact 35 rfl), He.free_ok X G (c.defs.fact 36 rfl), He.free_ok X G (c.defs.fact 37 rfl), He.free_ok X G (c.defs.fact 38 rfl), He.free_ok X G (c.defs.fact 39 rfl), He.free_ok X G (c.defs.fact 40 rfl), He.free_ok X G (c.defs.fact 41 rfl), He.free_ok X G (c.defs.fact 42 rfl), He.free_ok X G (c.defs.fact 43 rfl), c.con X G 0, c.con X G 1, c.con X G 2, c.con X G 3, c.con X G 4, c.con X G 5, c.con X G 6, c.con X G 7, c.con X G 8, c.con X G 9, c.con X G 10, c.con X G 11, c.tab X G 0⟩
  have e := hfa.symm.trans a.g_law
  cases e
  have b := FunD.bindsA (ps := ["_law_script"]) a.f_law fun _ _ _ _ _ _ us hl => match us, hl with | [_], _ => rfl
  exact ⟨_, fun s v => b s [v] rfl, fun base _ _ => t_law g a⟩
end L04
open PySem PySem.W PySem.Calls PyProof.Rows
theorem PySem.Challenge.cw_smallreaders_k04_books_known_holds : PySem.Challenge.rw_smallreaders_k04_books_known.Holds := by
  w_on; o_law
  refine HandSHeadRun.head_any (r := OpenLaw.row PySem.Challenge.rw_smallreaders_k04_books_known) (q := view (OpenLaw.row PySem.Challenge.rw_smallreaders_k04_books_known).prog [46]) (H := L04H.hk) (ob := L04H.ob) (M := 6000) (loose := L04H.loose) (d := HandSHeadRun.topDef (OpenLaw.row PySem.Challenge.rw_smallreaders_k04_books_known).prog 46) (kwd := []) L04H.ob_eq
    (by kernel_rfl) (fun s => by kernel_rfl) L04H.run (by kernel_rfl) (by kernel_rfl) (by kernel_rfl) (by rfl) (by first | assumption | decide +kernel) (by decide +kernel) ⟨rfl, rfl, rfl, rfl, rfl, by decide +kernel⟩ ?hw ?hc
  case hw => w_witness2
  case hc =>
    refine DL.walk_d (l := PySem.Challenge.rw_smallreaders_k04_books_known) (n := 63) (k := 27) (x := "_law_script") rfl (by decide) (by kernel_rfl) ⟨rfl, by decide, by decide⟩ ?F
    intro w mg fa h Y G hmg0
    obtain ⟨K, KX, c⟩ := Y
    have hmg : mg ("law" : PySem.Str) = some (.ref fa) := by
      have e : (HandSHeadRun.topDef (OpenLaw.row PySem.Challenge.rw_smallreaders_k04_books_known).prog 46).name = ("law" : PySem.Str) := by kernel_rfl
      rw [← e]
      exact hmg0
    obtain ⟨fd, hb, hF⟩ := L04.facts (P := (PySem.Challenge.rw_smallreaders_k04_books_known).prog) (w := w) KX G hmg c
    exact ⟨K, fd, L04.c_law, KX, hb, L04.law_ok, hF⟩
