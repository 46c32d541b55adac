import PyProof.Rows.All
import Wide.All
import OpenK.AllK
import Wide.FinOn
import HandS.ForMost
import HandS.HeadHook1
import HandS.Lambda
import HandS.TupAny
import HandS.Deep
import HandS.Wide
import HandS.TupMul
import HandS.Conv
import HandS.TupLe
import HandS.Flow
import HandS.IsInst
import HandS.RaiseMore
import HandS.Strs
import HandS.Defaults
import KE.KUnpackStar
import HandS.Text
import HandS.FStr
import HandS.StrSplit
import HandS.StrMore
import HandS.Ends
import HandS.Words
import HandS.HeadEnd
import KE.KStateDown
import HandS.WordsExc
import HandS.Head0
import HandS.Head1
import HandS.Head2
import HandS.HeadHook2
import KE.GoesZip
import KE.GoesMore
import HandS.Zip
import HandS.Flt
import PyProof.Rows.StrFirst
import HandS.WordsDict
import HandS.More
import KE.SortData
import HandS.DictComp
import HandS.SetKeys
import HandS.SetBool
import HandS.Style
import HandS.SortKw
import KE.DatumOrd
import HandS.Set
import HandS.SortInts
import HandS.SetFor
import PyProof.ListRange
import PyProof.NeKinds
import PyProof.ListStr
import PyProof.P3In
import KE.KDictCopyH
import KE.KDictDisplayH
import KE.KDictPairs
import HandS.ExcInit
import HandS.ExcCtx
import HandS.ExcIs
import HandS.ExcField
import HandS.ClsMeth
import PyProof.Rows.FactsExc_KeyError
import KE.KExcIs
import HandS.EndTab
import KE.KNestM
import HandS.NoneIn
import KE.KDictZip
import HandS.Rev
import PyProof.FString5
import PyProof.Draws
import HandS.Zip0
import HandS.Iter
import PyProof.TupleOfSeq
import KE.KIntText
import KE.KDictWalk
import KE.KMinKey
import KE.SortKeyHeap
import HandS.Small
import PySem.Challenge.RW_smallreaders_k51_machines_astray
set_option Elab.async false
set_option linter.all false
set_option maxRecDepth 100000
set_option maxHeartbeats 4000000
namespace DL
open PySem L2
/-- room for calls: one frame a level -/
structure Rm (k : Nat) (A : Around) : Prop where
  hd : A.handled = none
  dp : A.depth + k + 20 < recursionLimit
  un : A.units + 16 * k + 300 < cLine
theorem Rm.mono {j k : Nat} {A : Around} (r : Rm k A) (h : j ≤ k) : Rm j A := ⟨r.hd, by have := r.dp; omega, by have := r.un; omega⟩
theorem Rm.deeper {k : Nat} {A : Around} (r : Rm (k + 1) A) (env : Env) : Rm k (A.deeper env) :=
  ⟨r.hd, by have := r.dp; show A.depth + 1 + k + 20 < _; omega, by have := r.un; show A.units + 3 + 16 * k + 300 < _; omega⟩
theorem Rm.in1 {k : Nat} {A : Around} (r : Rm (k + 1) A) : Rm k A.in1 :=
  ⟨r.hd, by have := r.dp; show A.depth + k + 20 < _; omega, by have := r.un; show A.units + 1 + 16 * k + 300 < _; omega⟩
theorem Rm.make {k : Nat} {A : Around} (r : Rm (k + 1) A) (C : Addr) (us : List Value) (kw : List (Str × Value)) : Rm k (A.under (.builtin "type.__call__" ⟨.ref C :: us, kw⟩)) :=
  ⟨r.hd, by have := r.dp; rw [L2.make_depth]; omega, by have := r.un; rw [L2.make_units]; omega⟩
theorem Rm.depth {k : Nat} {A : Around} (r : Rm k A) : A.depth < recursionLimit := by have := r.dp; omega
theorem Rm.units {k : Nat} {A : Around} (r : Rm k A) : A.units + 64 < cLine := by have := r.un; omega
/-- the library's room, for its own three levels -/
theorem Rm.l2 {k : Nat} {A : Around} (r : Rm k A) : L2.Room 3 A := ⟨r.hd, by have := r.dp; omega, by have := r.un; omega⟩
abbrev D := PyData
abbrev Fg := PySem.W.Frag
def Sub (F H : Hp) : Prop := ∀ a o, F a = some o → H a = some o
theorem Sub.refl (F : Hp) : Sub F F := fun _ _ h => h
theorem Sub.trans {F G H : Hp} (a : Sub F G) (b : Sub G H) : Sub F H := fun x o h => b x o (a x o h)
theorem Sub.new {F : Hp} {p : Addr} {o : HO} (h : F p = none) : Sub F (upd F p o) := fun a u e => by
  rw [upd_ne (ne_of_none e h)]; exact e
theorem Sub.rd {F H : Hp} (s : Sub F H) {a : Addr} {u : HO} (h : Rd F a u) : Rd H a u := by
  rcases h with h | ⟨o, h⟩
  · exact Or.inl (s a _ h)
  · exact Or.inr ⟨o, s a _ h⟩
theorem Sub.sqL {K : Fg} {F H : Hp} (s : Sub F H) {a : Addr} {xs : List V} (h : SqL K F a xs) : SqL K H a xs := by
  rcases h with h | h
  · exact Or.inl (s.rd h)
  · exact Or.inr h
theorem Sub.sqT {K : Fg} {F H : Hp} (s : Sub F H) {a : Addr} {xs : List V} (h : SqT K F a xs) : SqT K H a xs := by
  rcases h with h | h
  · exact Or.inl (s.rd h)
  · exact Or.inr h
def kD : Key → D
  | .inl i => .int i
  | .inr s => .str s
def ktD (k : List Key) : D := .tuple (k.map kD)
/-- the keys and values of a dict that stands at a -/
def DOf (F : Hp) (a : Addr) (ks : List D) (vs : List V) : Prop :=
  (∃ kvs, Rd F a (.dK kvs) ∧ ks = kvs.map (fun p => kD p.1) ∧ vs = kvs.map (·.2)) ∨
  (∃ kvs, Rd F a (.dT kvs) ∧ ks = kvs.map (fun p => ktD p.1) ∧ vs = kvs.map (·.2))
theorem DOf.mono {F H : Hp} (s : Sub F H) {a : Addr} {ks : List D} {vs : List V} (h : DOf F a ks vs) : DOf H a ks vs := by
  rcases h with ⟨k, e, q⟩ | ⟨k, e, q⟩
  · exact .inl ⟨k, s.rd e, q⟩
  · exact .inr ⟨k, s.rd e, q⟩
def noInt : D → Bool
  | .int _ => false
  | _ => true
/-- a tuple: of F, or one of the module's own that has no whole number -/
def noIntV : V → Bool
  | .int _ => false
  | _ => true
/-- a new tuple: one without a whole number is known to the object -/
def tupO (o : Obj) (xs : List V) : HO := match xs.all noIntV with
  | true => .frz o (.tup xs)
  | false => .tup xs
/-- a tuple whose object has no dict -/
def SqZ (K : Fg) (F : Hp) (a : Addr) (xs : List V) : Prop :=
  (∃ o, F a = some (.frz o (.tup xs)) ∧ o.dict = none) ∨ ∃ (o : Obj) (its : Array Value) (n : Nat), K.lookup a = some o ∧ o.cls = .type "tuple" ∧ o.dict = none ∧ o.data = .seq its n ∧ its.size ≤ sizeLine ∧ Vals xs its.toList
theorem SqZ.sqT {K : Fg} {F : Hp} {a : Addr} {xs : List V} (h : SqZ K F a xs) : SqT K F a xs := by
  rcases h with ⟨o, h, _⟩ | ⟨o, its, n, h1, h2, _, h3⟩
  · exact .inl (.inr ⟨o, h⟩)
  · exact .inr ⟨o, its, n, h1, h2, h3⟩
theorem SqZ.mono {K : Fg} {F H : Hp} {a : Addr} {xs : List V} (h : SqZ K F a xs) (s : Sub F H) : SqZ K H a xs := by
  rcases h with ⟨o, h, q⟩ | h
  · exact .inl ⟨o, s _ _ h, q⟩
  · exact .inr h
def TpOk (K : Fg) (F : Hp) (a : Addr) (xs : List V) (ds : List D) : Prop := (F a = some (.tup xs) ∧ ds.all noInt = false) ∨ (SqZ K F a xs ∧ ds.all noInt = true)
theorem TpOk.sqT {K : Fg} {F : Hp} {a : Addr} {xs : List V} {ds : List D} (h : TpOk K F a xs ds) : SqT K F a xs := by
  rcases h with h | h
  · exact .inl (.inl h.1)
  · exact h.1.sqT
theorem TpOk.mono {K : Fg} {F H : Hp} {a : Addr} {xs : List V} {ds : List D} (h : TpOk K F a xs ds) (s : Sub F H) : TpOk K H a xs ds := by
  rcases h with h | h
  · exact .inl ⟨s _ _ h.1, h.2⟩
  · exact .inr ⟨h.1.mono s, h.2⟩
mutual
/-- v is the datum d, all of it in F -/
inductive Rp (K : Fg) (F : Hp) : V → D → Prop
  | non : Rp K F .non .none
  | bl (b : Bool) : Rp K F (.bl b) (.bool b)
  | int (i : Int) : Rp K F (.int i) (.int i)
  | str (x : Str) : Rp K F (.str x) (.str x)
  | lst {a : Addr} {xs : List V} {ds : List D} : Rd F a (.lst xs) → RpA K F xs ds → Rp K F (.ref a) (.list ds)
  | tup {a : Addr} {xs : List V} {ds : List D} : TpOk K F a xs ds → RpA K F xs ds → Rp K F (.ref a) (.tuple ds)
  | dct {a : Addr} {ks : List D} {vs : List V} {ws : List D} {ds : List (D × D)} : DOf F a ks vs → RpA K F vs ws → ds.map (·.1) = ks → ds.map (·.2) = ws → Rp K F (.ref a) (.dict ds)
inductive RpA (K : Fg) (F : Hp) : List V → List D → Prop
  | nil : RpA K F [] []
  | cons {v : V} {vs : List V} {d : D} {ds : List D} : Rp K F v d → RpA K F vs ds → RpA K F (v :: vs) (d :: ds)
end
mutual
theorem Rp.mono {K : Fg} {F H : Hp} (s : Sub F H) {v : V} {d : D} : Rp K F v d → Rp K H v d
  | .non => .non
  | .bl b => .bl b
  | .int i => .int i
  | .str x => .str x
  | .lst h r => .lst (s.rd h) (RpA.mono s r)
  | .tup h r => .tup (h.mono s) (RpA.mono s r)
  | .dct h r a b => .dct (h.mono s) (RpA.mono s r) a b
theorem RpA.mono {K : Fg} {F H : Hp} (s : Sub F H) {v : List V} {d : List D} : RpA K F v d → RpA K H v d
  | .nil => .nil
  | .cons h r => .cons (Rp.mono s h) (RpA.mono s r)
end
theorem RpA.length {K : Fg} {F : Hp} : ∀ {vs : List V} {ds : List D}, RpA K F vs ds → vs.length = ds.length
  | _, _, .nil => rfl
  | _, _, .cons _ r => by rw [List.length_cons, List.length_cons, RpA.length r]
theorem RpA.get {K : Fg} {F : Hp} : ∀ {vs : List V} {ds : List D} {i : Nat} {v : V}, RpA K F vs ds → vs[i]? = some v → ∃ d, ds[i]? = some d ∧ Rp K F v d
  | _, _, _, _, .nil, e => by simp at e
  | _, _, 0, _, .cons h _, e => by simp at e; subst e; exact ⟨_, rfl, h⟩
  | _, _, i + 1, v, .cons _ r, e => by
    obtain ⟨d, e1, h⟩ := RpA.get (i := i) (v := v) r (by simpa using e)
    exact ⟨d, by simpa using e1, h⟩
theorem RpA.getD {K : Fg} {F : Hp} : ∀ {vs : List V} {ds : List D} {i : Nat} {d : D}, RpA K F vs ds → ds[i]? = some d → ∃ v, vs[i]? = some v ∧ Rp K F v d
  | _, _, _, _, .nil, e => by simp at e
  | _, _, 0, _, .cons h _, e => by simp at e; subst e; exact ⟨_, rfl, h⟩
  | _, _, i + 1, d, .cons _ r, e => by
    obtain ⟨v, e1, h⟩ := RpA.getD (i := i) (d := d) r (by simpa using e)
    exact ⟨v, by simpa using e1, h⟩
theorem RpA.append {K : Fg} {F : Hp} : ∀ {vs ws : List V} {ds es : List D}, RpA K F vs ds → RpA K F ws es → RpA K F (vs ++ ws) (ds ++ es)
  | _, _, _, _, .nil, s => s
  | _, _, _, _, .cons h r, s => .cons h (RpA.append r s)
theorem RpA.take {K : Fg} {F : Hp} : ∀ {vs : List V} {ds : List D} (n : Nat), RpA K F vs ds → RpA K F (vs.take n) (ds.take n)
  | _, _, 0, _ => .nil
  | _, _, _ + 1, .nil => .nil
  | _, _, n + 1, .cons h r => .cons h (RpA.take n r)
theorem RpA.drop {K : Fg} {F : Hp} : ∀ {vs : List V} {ds : List D} (n : Nat), RpA K F vs ds → RpA K F (vs.drop n) (ds.drop n)
  | _, _, 0, r => r
  | _, _, _ + 1, .nil => .nil
  | _, _, n + 1, .cons _ r => RpA.drop n r
theorem RpA.set {K : Fg} {F : Hp} {v : V} {d : D} (h : Rp K F v d) : ∀ {vs : List V} {ds : List D} (n : Nat), RpA K F vs ds → RpA K F (vs.set n v) (ds.set n d)
  | _, _, _, .nil => .nil
  | _, _, 0, .cons _ r => .cons h r
  | _, _, n + 1, .cons q r => .cons q (RpA.set h n r)
theorem RpA.rev {K : Fg} {F : Hp} {vs : List V} {ds : List D} (h : RpA K F vs ds) : RpA K F vs.reverse ds.reverse := by
  induction vs generalizing ds with
  | nil => cases h; exact .nil
  | cons v vs ih =>
    cases h with
    | cons a b =>
      rw [List.reverse_cons, List.reverse_cons]
      exact (ih b).append (.cons a .nil)
theorem Rp.noInt {K : Fg} {F : Hp} {v : V} {d : D} (h : Rp K F v d) : noIntV v = DL.noInt d := by cases h <;> rfl
theorem RpA.noInt {K : Fg} {F : Hp} : ∀ {vs : List V} {ds : List D}, RpA K F vs ds → vs.all noIntV = ds.all DL.noInt
  | _, _, .nil => rfl
  | _, _, .cons h r => by rw [List.all_cons, List.all_cons, h.noInt, RpA.noInt r]
/-- a new tuple is one -/
theorem TpOk.new {K : Fg} {F : Hp} {p : Addr} {o : Obj} {xs : List V} {ds : List D} (hd : o.dict = none) (h : RpA K F xs ds) : TpOk K (upd F p (tupO o xs)) p xs ds := by
  have e := h.noInt
  unfold tupO
  cases q : ds.all DL.noInt with
  | true =>
    rw [q] at e; rw [e]
    exact .inr ⟨.inl ⟨o, upd_same, hd⟩, q⟩
  | false =>
    rw [q] at e; rw [e]
    exact .inl ⟨upd_same, q⟩
/-- what a box holds -/
inductive MB where
  | L (ds : List D) | K (kvs : List (D × D)) | T (kvs : List (D × D))
def MB.toD : MB → D
  | .L ds => .list ds
  | .K kvs => .dict kvs
  | .T kvs => .dict kvs
/-- the object o is what the box holds, its parts in F -/
inductive MO (K : Fg) (F : Hp) : HO → MB → Prop
  | L {xs : List V} {ds : List D} : RpA K F xs ds → MO K F (.lst xs) (.L ds)
  | K {kvs : List (Key × V)} {ds : List (D × D)} : ds.map (·.1) = kvs.map (fun p => kD p.1) → RpA K F (kvs.map (·.2)) (ds.map (·.2)) → MO K F (.dK kvs) (.K ds)
  | T {kvs : List (List Key × V)} {ds : List (D × D)} : ds.map (·.1) = kvs.map (fun p => ktD p.1) → RpA K F (kvs.map (·.2)) (ds.map (·.2)) → MO K F (.dT kvs) (.T ds)
theorem MO.mono {K : Fg} {F H : Hp} (s : Sub F H) {o : HO} {m : MB} (h : MO K F o m) : MO K H o m := by
  cases h with
  | L r => exact .L (r.mono s)
  | K e r => exact .K e (r.mono s)
  | T e r => exact .T e (r.mono s)
/-- an object that holds m, its parts in F, seen in H -/
theorem MO.rp {K : Fg} {F H : Hp} {o : HO} {m : MB} {p : Addr} (h : MO K F o m) (s : Sub F H) (e : H p = some o) : Rp K H (.ref p) m.toD := by
  cases h with
  | L r => exact .lst (.inl e) (r.mono s)
  | K q r => exact .dct (.inl ⟨_, .inl e, rfl, rfl⟩) (r.mono s) q rfl
  | T q r => exact .dct (.inr ⟨_, .inl e, rfl, rfl⟩) (r.mono s) q rfl
inductive X1 where
  | val (d : D) | adr (n : Nat) (a : Addr)
inductive Nd where
  | lst (xs : List X1) | dK (kvs : List (D × X1)) | dT (kvs : List (D × X1))
  | ins (C : Str) (dx : Addr) (fs : List (Str × X1)) | dead | tbl (q : Str)
abbrev Gh := List (Addr × Nd)
inductive XOk (K : Fg) (F : Hp) : V → X1 → Prop
  | val {v : V} {d : D} : Rp K F v d → XOk K F v (.val d)
  | adr {n : Nat} {a : Addr} : XOk K F (.ref a) (.adr n a)
inductive XsOk (K : Fg) (F : Hp) : List V → List X1 → Prop
  | nil : XsOk K F [] []
  | cons {v : V} {vs : List V} {x : X1} {xs : List X1} : XOk K F v x → XsOk K F vs xs → XsOk K F (v :: vs) (x :: xs)
theorem XOk.mono {K : Fg} {F H : Hp} (s : Sub F H) {v : V} {x : X1} (h : XOk K F v x) : XOk K H v x := by
  cases h with
  | val a => exact .val (a.mono s)
  | adr => exact .adr
theorem XsOk.mono {K : Fg} {F H : Hp} (s : Sub F H) {v : List V} {x : List X1} (h : XsOk K F v x) : XsOk K H v x := by
  induction h with
  | nil => exact .nil
  | cons a _ ih => exact .cons (a.mono s) ih
/-- the object o is what the node tells -/
inductive NO (K : Fg) (F : Hp) : HO → Nd → Prop
  | lst {vs : List V} {xs : List X1} : XsOk K F vs xs → NO K F (.lst vs) (.lst xs)
  | dK {kvs : List (Key × V)} {ds : List (D × X1)} : ds.map (·.1) = kvs.map (fun p => kD p.1) → XsOk K F (kvs.map (·.2)) (ds.map (·.2)) → NO K F (.dK kvs) (.dK ds)
  | dT {kvs : List (List Key × V)} {ds : List (D × X1)} : ds.map (·.1) = kvs.map (fun p => ktD p.1) → XsOk K F (kvs.map (·.2)) (ds.map (·.2)) → NO K F (.dT kvs) (.dT ds)
  | ins {C : Str} {dx : Addr} {fs : List (Str × V)} {gs : List (Str × X1)} : (gs.map (·.1)).Nodup → gs.map (·.1) = fs.map (·.1) → XsOk K F (fs.map (·.2)) (gs.map (·.2)) → NO K F (.ins (He.ga K C) dx fs) (.ins C dx gs)
  | tbl {ps : Array Value} {q : Str} : TriplesOk ps.toList → (∀ (pos : Pos) (cv : Value), codeAmong pos ps.toList = some cv → ∃ c, cv = .ref c ∧ F c = some (LamX.CodeO c q)) → NO K F (.tbl ps) (.tbl q)
theorem NO.mono {K : Fg} {F H : Hp} (s : Sub F H) {o : HO} {x : Nd} (h : NO K F o x) : NO K H o x := by
  cases h with
  | lst r => exact .lst (r.mono s)
  | dK e r => exact .dK e (r.mono s)
  | dT e r => exact .dT e (r.mono s)
  | ins n e r => exact .ins n e (r.mono s)
  | tbl t c => exact .tbl t fun pos cv z => (by obtain ⟨a, e, q⟩ := c pos cv z; exact ⟨a, e, s _ _ q⟩)
def fpN : Addr × Nd → List Addr
  | (a, .ins _ dx _) => [a, dx]
  | (_, .dead) => []
  | (a, .lst _) => [a]
  | (a, .dK _) => [a]
  | (a, .dT _) => [a]
  | (a, .tbl _) => [a]
def fp (G : Gh) : List Addr := G.flatMap fpN
/-- a node stands in the heap -/
def NdOk (K : Fg) (F H : Hp) (x : Addr × Nd) : Prop := x.2 = .dead ∨ ((∃ o, H x.1 = some o ∧ NO K F o x.2) ∧ ∀ C dx fs, x.2 = .ins C dx fs → H dx = some (.own x.1))
/-- a lambda: its object, its code, the state of its frame, what of it is known -/
structure Lam where
  f : Addr
  c : Addr
  q : Str
  st : L2.St
  ds : List (Option D)
def CapOk (K : Fg) (F : Hp) (L : Lam) : Prop := L.ds.length = L.st.length ∧ ∀ (i : Nat) d, L.ds[i]? = some (some d) → ∃ v, L.st[i]? = some (some v) ∧ Rp K F v d
inductive Ob where
  | scr (ns : List Int) | exc (C : Str) (fs : List (Str × D)) | tab (kvs : List (Str × Str)) | fn (x : Str) | lam (L : Lam)
/-- the exception at a: its class, its dict -/
def ExcO (a C : Addr) (d : Option Addr) : HO := .ext fun h => ∃ (oe : Obj) (vs : Array Value), h.get? a = some oe ∧ oe.cls = .ref C ∧ oe.dict = d ∧ oe.data = .fields vs
inductive ObOk (K : Fg) (F : Hp) : V → Ob → Prop
  | scr {a : Addr} {ns : List Int} : SqL K F a (ns.map V.int) → ObOk K F (.ref a) (.scr ns)
  | exc0 {a : Addr} {C : Str} : F a = some (ExcO a (He.ga K C) none) → ObOk K F (.ref a) (.exc C [])
  | exc {a dx : Addr} {C : Str} {gs : List (Str × V)} {fs : List (Str × D)} : F a = some (ExcO a (He.ga K C) (some dx)) → F dx = some (.xd gs) → fs.map (·.1) = gs.map (·.1) → RpA K F (gs.map (·.2)) (fs.map (·.2)) → ObOk K F (.ref a) (.exc C fs)
  | tab {a : Addr} {kvs : List (Str × Str)} : F a = some (.dK (kvs.map fun p => (.inr p.1, .ref (He.ga K p.2)))) → ObOk K F (.ref a) (.tab kvs)
  | fn {x : Str} : ObOk K F (.ref (He.ga K x)) (.fn x)
  | lam {L : Lam} : F L.c = some (LamX.CodeO L.c L.q) → CapOk K F L → ObOk K F (.ref L.f) (.lam L)
theorem ObOk.mono {K : Fg} {F H : Hp} (s : Sub F H) {v : V} {o : Ob} (h : ObOk K F v o) : ObOk K H v o := by
  cases h with
  | scr a => exact .scr (s.sqL a)
  | exc0 a => exact .exc0 (s _ _ a)
  | exc a b c d => exact .exc (s _ _ a) (s _ _ b) c (d.mono s)
  | tab a => exact .tab (s _ _ a)
  | fn => exact .fn
  | lam a b => exact .lam (s _ _ a) ⟨b.1, fun i d z => (by obtain ⟨v, e, q⟩ := b.2 i d z; exact ⟨v, e, q.mono s⟩)⟩
inductive Ce where
  | val (d : D) | box (prm : Bool) (m : MB) | ob (o : Ob) | adr (n : Nat) (a : Addr) | gh (G : Gh)
abbrev Ce.scr (ns : List Int) : Ce := .ob (.scr ns)
abbrev Rho := List (Option Ce)
/-- what an expression gives: a datum, a new object that nobody else holds, a reference to the box of slot i -/
inductive R where
  | val (d : D) | own (m : MB) | bor (i : Nat) | ob (o : Ob) | adr (n : Nat) (a : Addr)
abbrev R.scr (ns : List Int) : R := .ob (.scr ns)
/-- a frame's entry: F0 what stood frozen, P what is not ours and stays as it is, old: what stood -/
structure En where
  F0 : Hp
  P : Hp
  old : Addr → Prop
  prm : Nat → Option Addr
  /-- nodes that were handed in -/
  gp : Addr → Prop
structure GhOk (K : Fg) (e : En) (F H : Hp) (G : Gh) : Prop where
  nd : (fp G).Nodup
  at' : ∀ x ∈ G, NdOk K F H x
  fr : ∀ p ∈ fp G, F p = none ∧ e.P p = none ∧ (e.old p → e.gp p) ∧ H p ≠ none
theorem mem_fp {G : Gh} {x : Addr × Nd} (h : x ∈ G) (q : x.2 ≠ .dead) : x.1 ∈ fp G := by
  refine List.mem_flatMap.mpr ⟨x, h, ?_⟩
  obtain ⟨a, n⟩ := x
  cases n <;> first | exact List.mem_cons_self | exact absurd rfl q
theorem mem_fpi {G : Gh} {a dx : Addr} {C : Str} {fs : List (Str × X1)} (h : (a, Nd.ins C dx fs) ∈ G) : dx ∈ fp G :=
  List.mem_flatMap.mpr ⟨_, h, List.mem_cons_of_mem _ List.mem_cons_self⟩
theorem MO.ntup {K : Fg} {F : Hp} {o : HO} {m : MB} (h : MO K F o m) (xs : List V) : o ≠ .tup xs := by
  cases h <;> (intro z; cases z)
theorem NO.ntup {K : Fg} {F : Hp} {o : HO} {n : Nd} (h : NO K F o n) (xs : List V) : o ≠ .tup xs := by
  cases h <;> (intro z; cases z)
theorem GhOk.ntup {K : Fg} {e : En} {F H : Hp} {G : Gh} (h : GhOk K e F H G) {p : Addr} (hp : p ∈ fp G) (xs : List V) : H p ≠ some (.tup xs) := fun z => by
  obtain ⟨x, hx, hq⟩ := List.mem_flatMap.mp hp
  obtain ⟨a, n⟩ := x
  have hn := h.at' _ hx
  have go : ∀ {o : HO}, H a = some o → NO K F o n → H a ≠ some (.tup xs) := fun h1 h2 y => by
    rw [h1] at y
    exact h2.ntup xs (Option.some.inj y)
  rcases hn with q | ⟨⟨o, g1, g2⟩, g3⟩
  · simp only at q
    subst q
    simp [fpN] at hq
  · cases n with
    | dead => simp [fpN] at hq
    | lst ws =>
      simp [fpN] at hq
      subst hq
      exact go g1 g2 z
    | dK ws =>
      simp [fpN] at hq
      subst hq
      exact go g1 g2 z
    | dT ws =>
      simp [fpN] at hq
      subst hq
      exact go g1 g2 z
    | tbl ws =>
      simp [fpN] at hq
      subst hq
      exact go g1 g2 z
    | ins C dx fs =>
      simp [fpN] at hq
      rcases hq with rfl | rfl
      · exact go g1 g2 z
      · rw [g3 C _ fs rfl] at z; cases z
theorem GhOk.move {K : Fg} {e e' : En} {F F' H H' : Hp} {G : Gh} (h : GhOk K e F H G) (hF : Sub F F') (hH : ∀ p ∈ fp G, ∀ o, H p = some o → H' p = some o) (hf : ∀ p ∈ fp G, F' p = none) (he : ∀ p ∈ fp G, e'.P p = none ∧ (e'.old p → e'.gp p)) : GhOk K e' F' H' G where
  nd := h.nd
  at' := fun x hx => by
    rcases h.at' x hx with q | ⟨⟨o, g1, g2⟩, g3⟩
    · exact .inl q
    · by_cases z : x.2 = .dead
      · exact .inl z
      · refine .inr ⟨⟨o, hH _ (mem_fp hx z) _ g1, g2.mono hF⟩, fun C dx fs q => ?_⟩
        obtain ⟨a, n⟩ := x
        cases q
        exact hH _ (mem_fpi hx) _ (g3 C dx fs rfl)
  fr := fun p hp => by
    obtain ⟨_, _, _, h4⟩ := h.fr p hp
    refine ⟨hf p hp, (he p hp).1, (he p hp).2, ?_⟩
    cases q : H p with
    | none => exact absurd q h4
    | some o => rw [hH p hp o q]; simp
structure Ok (K : Fg) (e : En) (F : Hp) (r : Rho) (s : L2.St) (H : Hp) : Prop where
  len : r.length = s.length
  sub : Sub F H
  f0 : Sub e.F0 F
  prot : Sub e.P H
  new : ∀ a o, F a = some o → e.F0 a = some o ∨ e.P a = none ∨ ∃ xs, o = .tup xs
  dom : ∀ a, e.old a → H a ≠ none
  slot : ∀ (i : Nat) d, r[i]? = some (some (Ce.val d)) → ∃ v, s[i]? = some (some v) ∧ Rp K F v d
  box : ∀ (i : Nat) b m, r[i]? = some (some (Ce.box b m)) → ∃ p o, s[i]? = some (some (V.ref p)) ∧ H p = some o ∧ MO K F o m ∧ F p = none ∧ e.P p = none ∧ (b = false → ¬ e.old p) ∧ (b = true → e.prm i = some p)
  ob : ∀ (i : Nat) o, r[i]? = some (some (Ce.ob o)) → ∃ v, s[i]? = some (some v) ∧ ObOk K F v o
  sep : ∀ (i j : Nat) p b m b' m', r[i]? = some (some (Ce.box b m)) → r[j]? = some (some (Ce.box b' m')) → s[i]? = some (some (V.ref p)) → s[j]? = some (some (V.ref p)) → i = j
  adr : ∀ (i : Nat) n a, r[i]? = some (some (Ce.adr n a)) → s[i]? = some (some (V.ref a))
  gh : ∀ (i : Nat) G, r[i]? = some (some (Ce.gh G)) → GhOk K e F H G ∧ (∀ (j : Nat) b m p, r[j]? = some (some (Ce.box b m)) → s[j]? = some (some (V.ref p)) → p ∉ fp G) ∧ ∀ (j : Nat) G', r[j]? = some (some (Ce.gh G')) → j = i
  gpF : ∀ p, e.gp p → True ∧ e.old p
/-- p is no box's address and no node's -/
def NB (r : Rho) (s : L2.St) (p : Addr) : Prop := (∀ (i : Nat) b m', r[i]? = some (some (Ce.box b m')) → s[i]? ≠ some (some (V.ref p))) ∧ ∀ (i : Nat) G, r[i]? = some (some (Ce.gh G)) → p ∉ fp G
/-- a value is what an expression gave -/
inductive RR (K : Fg) (e : En) (F : Hp) (r : Rho) (s : L2.St) (H : Hp) : R → V → Prop
  | val {v : V} {d : D} : Rp K F v d → RR K e F r s H (.val d) v
  | own {p : Addr} {o : HO} {m : MB} : H p = some o → MO K F o m → F p = none → e.P p = none → ¬ e.old p → NB r s p → RR K e F r s H (.own m) (.ref p)
  | bor {i : Nat} {v : V} : s[i]? = some (some v) → (∃ b m, r[i]? = some (some (Ce.box b m))) → RR K e F r s H (.bor i) v
  | ob {v : V} {o : Ob} : ObOk K F v o → RR K e F r s H (.ob o) v
  | adr {n : Nat} {a : Addr} : RR K e F r s H (.adr n a) (.ref a)
/-- a wish about what an expression gives -/
abbrev Po := R → Rho → Prop
/-- what an expression does to data -/
abbrev ME := Rho → Po → Prop
def T (K : Fg) (e : En) (m : ME) : TE := fun s H Q => ∃ F r, Ok K e F r s H ∧ ∃ P : Po, m r P ∧ ∀ x r' v F' H', P x r' → Ok K e F' r' s H' → Sub F F' → RR K e F' r' s H' x v → Q v H'
def DE (X : Cx) (a : Expr) (m : ME) : Prop := ∀ e, PE X a (T X.K e m)
theorem PE.imp {X : Cx} {a : Expr} {t u : TE} (h : PE X a t) (i : ∀ s H Q, u s H Q → t s H Q) : PE X a u := ⟨fun pins s σ H Q I q => h.run pins s σ H Q I (i _ _ _ q)⟩
end DL
namespace DL
open PySem L2
section
variable {K : Fg} {e : En} {F : Hp} {r : Rho} {s : L2.St} {H : Hp} {p : Addr} {o : HO}
theorem Ok.free (k : Ok K e F r s H) (h : H p = none) : F p = none ∧ e.P p = none ∧ ¬ e.old p := by
  refine ⟨?_, ?_, fun z => k.dom p z h⟩
  · cases q : F p with
    | none => rfl
    | some u => rw [k.sub p u q] at h; cases h
  · cases q : e.P p with
    | none => rfl
    | some u => rw [k.prot p u q] at h; cases h
/-- a new object, not frozen -/
theorem Ok.alloc (k : Ok K e F r s H) (h : H p = none) : Ok K e F r s (upd H p o) where
  len := k.len
  sub := k.sub.trans (Sub.new h)
  f0 := k.f0
  prot := k.prot.trans (Sub.new h)
  new := k.new
  dom := fun a z => by
    by_cases q : a = p
    · subst q; rw [upd_same]; simp
    · rw [upd_ne q]; exact k.dom a z
  slot := k.slot
  box := fun i b m z => by
    obtain ⟨q, u, h1, h2, h3⟩ := k.box i b m z
    exact ⟨q, u, h1, Sub.new h q u h2, h3⟩
  ob := k.ob
  sep := k.sep
  adr := k.adr
  gh := fun i G z => by
    obtain ⟨g1, g2, g3⟩ := k.gh i G z
    exact ⟨g1.move (Sub.refl F) (fun q _ u w => Sub.new h q u w) (fun q w => (g1.fr q w).1) fun q w => ⟨(g1.fr q w).2.1, (g1.fr q w).2.2.1⟩, g2, g3⟩
  gpF := k.gpF
/-- an object that is no box's becomes frozen -/
theorem Ok.freeze (k : Ok K e F r s H) (h : H p = some o) (hF : F p = none) (hP : e.P p = none) (ho : ¬ e.old p) (hb : NB r s p) : Ok K e (upd F p o) r s H where
  len := k.len
  sub := fun a u q => by
    by_cases z : a = p
    · subst z; rw [upd_same] at q; cases q; exact h
    · rw [upd_ne z] at q; exact k.sub a u q
  f0 := k.f0.trans (Sub.new hF)
  prot := k.prot
  new := fun a u q => by
    by_cases z : a = p
    · subst z; exact .inr (.inl hP)
    · rw [upd_ne z] at q; exact k.new a u q
  dom := k.dom
  slot := fun i d z => by
    obtain ⟨v, h1, h2⟩ := k.slot i d z
    exact ⟨v, h1, h2.mono (Sub.new hF)⟩
  box := fun i b m z => by
    obtain ⟨q, u, h1, h2, h3, h4, h5⟩ := k.box i b m z
    have ne : q ≠ p := fun y => by subst y; exact hb.1 i b m z h1
    exact ⟨q, u, h1, h2, h3.mono (Sub.new hF), by rw [upd_ne ne]; exact h4, h5⟩
  ob := fun i ns z => by
    obtain ⟨a, g1, g2⟩ := k.ob i ns z
    exact ⟨a, g1, g2.mono (Sub.new hF)⟩
  sep := k.sep
  adr := k.adr
  gh := fun i G z => by
    obtain ⟨g1, g2, g3⟩ := k.gh i G z
    refine ⟨g1.move (Sub.new hF) (fun q _ u w => w) (fun q w => ?_) fun q w => ⟨(g1.fr q w).2.1, (g1.fr q w).2.2.1⟩, g2, g3⟩
    rw [upd_ne (fun y => by subst y; exact hb.2 i G z w)]
    exact (g1.fr q w).1
  gpF := k.gpF
theorem Ok.nobox (k : Ok K e F r s H) (h : H p = none) : NB r s p := by
  refine ⟨fun i b m z y => ?_, fun i G z w => ((k.gh i G z).1.fr p w).2.2.2 h⟩
  obtain ⟨q, u, h1, h2, _⟩ := k.box i b m z
  rw [y] at h1; cases h1; rw [h] at h2; cases h2
/-- a new frozen object -/
theorem Ok.lay (k : Ok K e F r s H) (h : H p = none) : Ok K e (upd F p o) r s (upd H p o) :=
  (k.alloc h).freeze upd_same (k.free h).1 (k.free h).2.1 (k.free h).2.2 (k.nobox h)
end
def R.tmp : R → R
  | .val d => .val d
  | .own m => .val m.toD
  | .bor i => .bor i
  | .ob ns => .ob ns
  | .adr n a => .adr n a
/-- a datum as it is looked at -/
def look (r : Rho) : R → Option D
  | .val d => some d
  | .own m => some m.toD
  | .bor i => match r[i]? with
    | some (some (.box _ m)) => some m.toD
    | _ => none
  | .ob _ => none
  | .adr _ _ => none
inductive RT (K : Fg) (F : Hp) (s : L2.St) : R → V → Prop
  | val {v : V} {d : D} : Rp K F v d → RT K F s (.val d) v
  | bor {i : Nat} {v : V} : s[i]? = some (some v) → RT K F s (.bor i) v
  | ob {v : V} {o : Ob} : ObOk K F v o → RT K F s (.ob o) v
  | adr {n : Nat} {a : Addr} : RT K F s (.adr n a) (.ref a)
theorem RT.mono {K : Fg} {F F' : Hp} {s : L2.St} {x : R} {v : V} (h : RT K F s x v) (q : Sub F F') : RT K F' s x v := by
  cases h with
  | val a => exact .val (a.mono q)
  | bor a => exact .bor a
  | ob a => exact .ob (a.mono q)
  | adr => exact .adr
/-- v looks like d in H, its parts in F -/
inductive Lk (K : Fg) (F H : Hp) : V → D → Prop
  | rp {v : V} {d : D} : Rp K F v d → Lk K F H v d
  | mo {p : Addr} {o : HO} {m : MB} : H p = some o → MO K F o m → Lk K F H (.ref p) m.toD
theorem Lk.all {K : Fg} {F H : Hp} {v : V} {d : D} (h : Lk K F H v d) (q : Sub F H) : Rp K H v d := by
  cases h with
  | rp a => exact a.mono q
  | mo a b => exact b.rp q a
theorem RT.look {K : Fg} {e : En} {F : Hp} {r : Rho} {s : L2.St} {H : Hp} {x : R} {v : V} {d : D} (h : RT K F s x v) (k : Ok K e F r s H) (q : DL.look r x = some d) : Lk K F H v d := by
  cases h with
  | val a => cases q; exact .rp a
  | @bor i v a =>
    simp only [DL.look] at q
    split at q
    · rename_i z
      cases q
      obtain ⟨p, o, h1, h2, h3, _⟩ := k.box _ _ _ z
      rw [a] at h1; cases h1
      exact .mo h2 h3
    · cases q
  | ob _ => cases q
  | adr => cases q
def Tt (K : Fg) (e : En) (m : ME) : TE := fun s H Q => ∃ F r, Ok K e F r s H ∧ ∃ P : Po, m r P ∧ ∀ x r' v F' H', P x r' → Ok K e F' r' s H' → Sub F F' → RT K F' s x v → Q v H'
def mTmp (m : ME) : ME := fun r P => m r fun x r' => P x.tmp r'
theorem RR.tmp {K : Fg} {e : En} {F : Hp} {r : Rho} {s : L2.St} {H : Hp} {x : R} {v : V} (h : RR K e F r s H x v) (k : Ok K e F r s H) : ∃ F', Ok K e F' r s H ∧ Sub F F' ∧ RT K F' s x.tmp v := by
  cases h with
  | val a => exact ⟨F, k, Sub.refl F, .val a⟩
  | @own p o m h1 h2 h3 h4 h5 h6 =>
    have k' := k.freeze h1 h3 h4 h5 h6
    exact ⟨_, k', Sub.new h3, .val (h2.rp (Sub.new h3) upd_same)⟩
  | bor a b => exact ⟨F, k, Sub.refl F, .bor a⟩
  | ob a => exact ⟨F, k, Sub.refl F, .ob a⟩
  | adr => exact ⟨F, k, Sub.refl F, .adr⟩
theorem DE.tmp {X : Cx} {a : Expr} {m : ME} (h : DE X a m) (e : En) : PE X a (Tt X.K e (mTmp m)) :=
  PE.imp (h e) fun s H Q ⟨F, r, k, P, hm, hP⟩ => ⟨F, r, k, _, hm, fun x r' v F' H' hx k' q hr => by
    obtain ⟨F2, k2, q2, t⟩ := hr.tmp k'
    exact hP _ r' v F2 H' hx k2 (q.trans q2) t⟩
def onO {α : Type} (o : Option α) (K : α → Prop) : Prop := match o with
  | some a => K a
  | none => False
theorem onO.ex {α : Type} {o : Option α} {K : α → Prop} (h : onO o K) : ∃ a, o = some a ∧ K a := by
  cases o with
  | none => exact h.elim
  | some a => exact ⟨a, rfl, h⟩
def onP {α β : Type} (o : Option (α × β)) (K : α → β → Prop) : Prop := match o with
  | some (a, b) => K a b
  | none => False
theorem onP.ex {α β : Type} {o : Option (α × β)} {K : α → β → Prop} (h : onP o K) : ∃ a b, o = some (a, b) ∧ K a b := by
  cases o with
  | none => exact h.elim
  | some a => exact ⟨a.1, a.2, rfl, h⟩
/-- what is asked, what goes on -/
def rqB (b : Bool) (A : Prop) : Prop := match b with
  | true => A
  | false => False
theorem rqB.ex {b : Bool} {A : Prop} (h : rqB b A) : b = true ∧ A := by
  cases b with
  | true => exact ⟨rfl, h⟩
  | false => exact h.elim
theorem rqB.mk {b : Bool} {A : Prop} (h : b = true) (a : A) : rqB b A := by subst h; exact a
abbrev Rq (c : Prop) [Decidable c] (A : Prop) : Prop := rqB (decide c) A
theorem Rq.c {c A : Prop} [Decidable c] (h : Rq c A) : c := of_decide_eq_true (rqB.ex h).1
theorem Rq.a {c A : Prop} [Decidable c] (h : Rq c A) : A := (rqB.ex h).2
theorem Rq.mk {c A : Prop} [Decidable c] (h : c) (a : A) : rqB (decide c) A := rqB.mk (decide_eq_true h) a
def brK (b : Bool) (A B : Prop) : Prop := match b with
  | true => A
  | false => B
/-- what an operation on data does: from d1, d2 the R z -/
abbrev F2 := D → D → Option R
def OpD (X : Cx) (g : Value → Value → Sem Value) (f : F2) : Prop := ∃ rr : R2, OpR X g rr ∧ ∀ (e : En) (F : Hp) (r : Rho) (s : L2.St) (H : Hp) (v1 v2 : V) (d1 d2 : D) (z : R) (Q : VK),
  Ok X.K e F r s H → Lk X.K F H v1 d1 → Lk X.K F H v2 d2 → f d1 d2 = some z → (∀ v F' H', Ok X.K e F' r s H' → Sub F F' → RR X.K e F' r s H' z v → Q v H') → rr v1 v2 H Q
theorem OpR.or {X : Cx} {g : Value → Value → Sem Value} {a b : R2} (h : OpR X g a) (h' : OpR X g b) : OpR X g (fun x y H Q => a x y H Q ∨ b x y H Q) := fun pins s σ H x y v u Q I rx ry q =>
  q.elim (h pins s σ H x y v u Q I rx ry) (h' pins s σ H x y v u Q I rx ry)
def orF (f g : F2) : F2 := fun a b => match f a b with
  | some z => some z
  | none => g a b
theorem OpD.or {X : Cx} {g : Value → Value → Sem Value} {f f' : F2} (h : OpD X g f) (h' : OpD X g f') : OpD X g (orF f f') := by
  obtain ⟨a, ha, qa⟩ := h
  obtain ⟨b, hb, qb⟩ := h'
  refine ⟨_, OpR.or ha hb, fun e F r s H v1 v2 d1 d2 z Q k l1 l2 q w => ?_⟩
  unfold orF at q
  split at q
  · rename_i y hy
    exact .inl (qa e F r s H v1 v2 d1 d2 z Q k l1 l2 (hy.trans q) w)
  · exact .inr (qb e F r s H v1 v2 d1 d2 z Q k l1 l2 q w)
/-- an operation and what it does, told so that it runs -/
structure OpK where
  f : F2
  k : D → D → (R → Prop) → Prop
  ok : ∀ d1 d2 K, k d1 d2 K → ∃ z, f d1 d2 = some z ∧ K z
def KOp (o : OpK) (P : Po) (x y : R) (r : Rho) : Prop := onO (look r x) fun d1 => onO (look r y) fun d2 => o.k d1 d2 fun z => P z r
theorem KOp.ex {o : OpK} {P : Po} {x y : R} {r : Rho} (h : KOp o P x y r) : ∃ d1 d2 z, look r x = some d1 ∧ look r y = some d2 ∧ o.f d1 d2 = some z ∧ P z r := by
  obtain ⟨d1, e1, h1⟩ := onO.ex h
  obtain ⟨d2, e2, h2⟩ := onO.ex h1
  obtain ⟨z, e3, h3⟩ := o.ok _ _ _ h2
  exact ⟨d1, d2, z, e1, e2, e3, h3⟩
def mOp (o : OpK) (ma mb : ME) : ME := fun r P => ma r fun x r1 => mb r1 fun y r2 => KOp o P x.tmp y.tmp r2
theorem mOp_read {X : Cx} {e : En} {o : OpK} {ma mb : ME} {rr : R2} (ho : ∀ (e : En) (F : Hp) (r : Rho) (s : L2.St) (H : Hp) (v1 v2 : V) (d1 d2 : D) (z : R) (Q : VK),
    Ok X.K e F r s H → Lk X.K F H v1 d1 → Lk X.K F H v2 d2 → o.f d1 d2 = some z → (∀ v F' H', Ok X.K e F' r s H' → Sub F F' → RR X.K e F' r s H' z v → Q v H') → rr v1 v2 H Q)
    {s : L2.St} {H : Hp} {Q : VK} (h : T X.K e (mOp o ma mb) s H Q) : tOp rr (Tt X.K e (mTmp ma)) (Tt X.K e (mTmp mb)) s H Q := by
  obtain ⟨F, r, k, P, hm, hP⟩ := h
  refine ⟨F, r, k, fun x r1 => mb r1 fun y r2 => KOp o P x y.tmp r2, hm, fun x r1 v1 F1 H1 hx k1 q1 t1 => ?_⟩
  refine ⟨F1, r1, k1, fun y r2 => KOp o P x y r2, hx, fun y r2 v2 F2 H2 hy k2 q2 t2 => ?_⟩
  obtain ⟨d1, d2, z, e1, e2, ef, hz⟩ := KOp.ex hy
  exact ho e F2 r2 s H2 v1 v2 d1 d2 z Q k2 ((t1.mono q2).look k2 e1) (t2.look k2 e2) ef fun v F' H' k' q' hr => hP z r2 v F' H' hz k' ((q1.trans q2).trans q') hr
section
variable {X : Cx} {a b : Expr} {ma mb : ME} {pos : Pos}
theorem de_op {op : Operator} {o : OpK} (ho : OpD X (binaryOp op) o.f) (ha : DE X a ma) (hb : DE X b mb) : DE X (.BinOp a op b pos) (mOp o ma mb) := fun e => by
  obtain ⟨rr, hr, hq⟩ := ho
  exact PE.imp (pe_op hr (ha.tmp e) (hb.tmp e)) fun s H Q h => mOp_read hq h
theorem de_cmp {op : CmpOp} {o : OpK} (ho : OpD X (compareOp op) o.f) (ha : DE X a ma) (hb : DE X b mb) (hm : behindInMarks op b = false) : DE X (.Compare a [op] [b] pos) (mOp o ma mb) := fun e => by
  obtain ⟨rr, hr, hq⟩ := ho
  exact PE.imp (pe_cmpR hr (ha.tmp e) (hb.tmp e) hm) fun s H Q h => mOp_read hq h
def mVal (d : D) : ME := fun r P => P (.val d) r
def mVar (i : Nat) : ME := fun r P => match r[i]? with
  | some (some (.val d)) => P (.val d) r
  | some (some (.box _ _)) => P (.bor i) r
  | some (some (.ob ns)) => P (.ob ns) r
  | some (some (.adr n a)) => P (.adr n a) r
  | _ => False
theorem de_var {i : Nat} {x : Str} (hN : X.N[i]? = some x) (hv : Vis X.env.scope x) (hd : (x == ("__debug__" : Str)) = false := by decide) (hcd : (x == ("__classdict__" : Str)) = false := by decide) : DE X (.Name x pos) (mVar i) := fun e =>
  PE.imp (pe_var hN hv hd hcd) fun s H Q ⟨F, r, k, P, hm, hP⟩ => by
    unfold mVar at hm
    split at hm
    · rename_i d z
      obtain ⟨v, h1, h2⟩ := k.slot i d z
      exact ⟨v, h1, hP _ r v F H hm k (Sub.refl F) (.val h2)⟩
    · rename_i b m z
      obtain ⟨p, o, h1, _⟩ := k.box i b m z
      exact ⟨_, h1, hP _ r _ F H hm k (Sub.refl F) (.bor h1 ⟨b, m, z⟩)⟩
    · rename_i ns z
      obtain ⟨a, h1, h2⟩ := k.ob i ns z
      exact ⟨_, h1, hP _ r _ F H hm k (Sub.refl F) (.ob h2)⟩
    · rename_i n a z
      exact ⟨_, k.adr i n a z, hP _ r _ F H hm k (Sub.refl F) .adr⟩
    · exact hm.elim
theorem de_const {v : V} {d : D} (h : PE X a (tC v)) (hd : ∀ F, Rp X.K F v d) : DE X a (mVal d) := fun e =>
  PE.imp h fun s H Q ⟨F, r, k, P, hm, hP⟩ => hP _ r v F H hm k (Sub.refl F) (.val (hd F))
theorem de_int {i j} : DE X (.Constant (.int i) j pos) (mVal (.int i)) := de_const pe_int fun _ => .int i
theorem de_bl {b j} : DE X (.Constant (.bool b) j pos) (mVal (.bool b)) := de_const pe_bl fun _ => .bl b
theorem de_non {j} : DE X (.Constant .none j pos) (mVal .none) := de_const pe_non fun _ => .non
theorem de_str {x j} : DE X (.Constant (.str x) j pos) (mVal (.str x)) := de_const pe_str fun _ => .str x
end
end DL
namespace DL
open PySem L2 PyProof.Rows
abbrev tobj (its : List Value) : Obj := { cls := .type "tuple", data := .seq its.toArray }
section
variable {X : Cx} {pins : List (Addr × Obj)} {σ : L2.St} {H : Hp} {s : Shared}
theorem tupO_ok {P : Program} {w : World} {H : Hp} {h : Heap} {p : Addr} {its : List Value} {xs : List V} (r : Vals xs its) (hz : xs.length ≤ sizeLine) (e : h.get? p = some (tobj its)) : ObjOk P w H h p (tupO (tobj its) xs) := by
  have go : ObjOk P w H h p (.tup xs) := ⟨hz, its, r, ⟨_, e, rfl, _, rfl⟩⟩
  unfold tupO
  cases xs.all noIntV with
  | true => exact ⟨e, go⟩
  | false => exact go
theorem Inv.ltup {its : List Value} {xs : List V} (I : Inv X pins σ H s) (r : Vals xs its) (hz : xs.length ≤ sizeLine) : Inv X pins σ (upd H s.heap.objs.size (tupO (tobj its) xs)) { s with heap := s.heap.push (tobj its) } :=
  I.laid (t' := s.toks) (fun b u e => Heap.get?_push_of_some _ e) (Nat.le_refl _) (tupO_ok r hz (Heap.get?_push_size _ rfl))
/-- what is wished of a new tuple -/
def newT (xs : List V) (H : Hp) (Q : VK) : Prop := ∀ p o, H p = none → o.dict = none → Q (.ref p) (upd H p (tupO o xs))
theorem ep_tup {its : List Value} {xs : List V} {Q : VK} (I : Inv X pins σ H s) (r : Vals xs its) (hz : xs.length ≤ sizeLine) (q : newT xs H Q) : EP X pins σ Q (.ref s.heap.objs.size) { s with heap := s.heap.push (tobj its) } :=
  ⟨.ref _, _, Inv.ltup I r hz, rfl, q _ _ (I.hok.fresh (Nat.le_refl _)) rfl⟩
def tTupZ (t : TA) : TE := fun σ H Q => t σ H fun xs H1 => xs.length ≤ sizeLine ∧ newT xs H1 Q
theorem pe_tupZ {es : List Expr} {t : TA} {pos : Pos} {x1} (h : PA X es t) : PE X (.Tuple es x1 pos) (tTupZ t) :=
  ⟨fun pins s σ H Q I hq => wpAny_Tuple_spliced (thn (h.run pos pins s σ H _ I hq) fun us s1 ⟨xs, H1, I1, r, z, q⟩ => ⟨by rw [← r.length]; exact z, ep_tup I1 r z q⟩)⟩
def rCatZ (K : Fg) : R2 := fun x y H Q => ∃ a b xs ys, x = .ref a ∧ y = .ref b ∧ SqT K H a xs ∧ SqT K H b ys ∧ xs.length + ys.length ≤ sizeLine ∧
  (xs = [] → Q (.ref b) H) ∧ (xs ≠ [] → ys = [] → Q (.ref a) H) ∧ (xs ≠ [] → ys ≠ [] → newT (xs ++ ys) H Q)
theorem op_catZ : OpR X (binaryOp .Add) (rCatZ X.K) := by
  intro pins s σ H x y v u Q I rx ry ⟨a, b, xs, ys, ex, ey, ha, hb, hz, q0, q1, q2⟩
  subst ex ey
  cases rx; cases ry
  obtain ⟨its, r1, p1, _⟩ := I.tuple ha
  obtain ⟨its2, r2, p2, _⟩ := I.tuple hb
  by_cases hx : xs = []
  · subst hx
    cases r1
    exact cat_tup0 p1 p2 ⟨.ref b, H, I, rfl, q0 rfl⟩
  · refine HT.cat_tup p1 p2 (fun z => hx (r1.nil_iff.mp z)) (fun z => ⟨.ref a, H, I, rfl, q1 hx (r2.nil_iff.mp z)⟩) (fun z => ?_) (by rw [← r1.length, ← r2.length]; exact hz)
    exact ep_tup I (r1.append r2) (by rw [List.length_append]; exact hz) (q2 hx fun w => z (r2.nil_iff.mpr w))
def rSlZ (K : Fg) : V → Option Int → Option Int → Hp → VK → Prop := fun x lo hi H Q => ∃ a xs, x = .ref a ∧ SqT K H a xs ∧
  (HT.sIx xs.length 0 lo = 0 ∧ HT.sIx xs.length xs.length hi = xs.length → Q (.ref a) H) ∧ (¬ (HT.sIx xs.length 0 lo = 0 ∧ HT.sIx xs.length xs.length hi = xs.length) → newT (cutV xs lo hi) H Q)
theorem sl_tupZ : SlR X (rSlZ X.K) := by
  intro pins s σ H x v vl vu lo hi sl Q I rx hs pl pu ⟨a, xs, ex, hx, q1, q2⟩
  subst ex
  cases rx
  obtain ⟨its, r, ht, hz⟩ := I.tuple hx
  have hl : its.toArray.size = xs.length := by rw [List.size_toArray, r.length]
  refine ⟨"tuple", _, PyProof.Rows.slot_tuple_getitem.lookup, ht.typeIs, ?_⟩
  by_cases hw : HT.sIx xs.length 0 lo = 0 ∧ HT.sIx xs.length xs.length hi = xs.length
  · exact getItem_tuple_whole ht hs pl pu (by rw [hl]; exact hw) ⟨.ref a, H, I, rfl, q1 hw⟩
  · refine HT.getItem_tuple_cut ht hs pl pu (by rw [hl]; exact hw) ?_ (by rw [hl]; exact hz)
    rw [hl]
    exact ep_tup I ((r.drop _).take _) (Nat.le_trans (cutV_length xs lo hi) hz) (q2 hw)
/-- tuple(x) -/
def rTupZ (K : Fg) (xs : List V) (H : Hp) (Q : VK) : Prop := (∃ p ys, xs = [.ref p] ∧ SqL K H p ys ∧ newT ys H Q) ∨ ∃ p ys, xs = [.ref p] ∧ SqT K H p ys ∧ Q (.ref p) H
theorem call_tupZ : CallR X (.type "tuple") (rTupZ X.K) := by
  intro pins s σ H xs us Q I r h
  rcases h with ⟨p, ys, e, hs, q⟩ | ⟨p, ys, e, hs, q⟩
  · subst e
    obtain ⟨u, e, ru⟩ := vals1 r
    subst e
    cases ru
    obtain ⟨its, rv, pl, hz⟩ := I.list hs
    refine call_tuple_list pl.isList (fun h' hk => ?_) (by rw [List.size_toArray, ← rv.length]; exact hz)
    exact ep_tup (s := { s with heap := h' }) (I.kept (t' := s.toks) hk) rv hz q
  · subst e
    obtain ⟨u, e, ru⟩ := vals1 r
    subst e
    cases ru
    obtain ⟨its, rv, pl, hz⟩ := I.tuple hs
    exact call_tuple_tup pl ⟨.ref p, H, I, rfl, q⟩
end
end DL
namespace DL
open PySem L2 PyProof.Rows
section
variable {X : Cx}
theorem Lk.int {K : Fg} {F H : Hp} {v : V} {i : Int} (h : Lk K F H v (.int i)) : v = .int i := by
  generalize e : (PyData.int i : D) = d at h
  cases h with
  | rp a => subst e; cases a; rfl
  | @mo p o m a b => cases m <;> cases e
theorem Lk.str {K : Fg} {F H : Hp} {v : V} {x : Str} (h : Lk K F H v (.str x)) : v = .str x := by
  generalize e : (PyData.str x : D) = d at h
  cases h with
  | rp a => subst e; cases a; rfl
  | @mo p o m a b => cases m <;> cases e
theorem Lk.bl {K : Fg} {F H : Hp} {v : V} {x : Bool} (h : Lk K F H v (.bool x)) : v = .bl x := by
  generalize e : (PyData.bool x : D) = d at h
  cases h with
  | rp a => subst e; cases a; rfl
  | @mo p o m a b => cases m <;> cases e
theorem Lk.non {K : Fg} {F H : Hp} {v : V} (h : Lk K F H v .none) : v = .non := by
  generalize e : (PyData.none : D) = d at h
  cases h with
  | rp a => subst e; cases a; rfl
  | @mo p o m a b => cases m <;> cases e
theorem Lk.lst {K : Fg} {F H : Hp} {v : V} {ds : List D} (h : Lk K F H v (.list ds)) (q : Sub F H) : ∃ a xs, v = .ref a ∧ Rd H a (.lst xs) ∧ RpA K F xs ds := by
  generalize e : (PyData.list ds : D) = d at h
  cases h with
  | rp a => subst e; cases a with | lst a b => exact ⟨_, _, rfl, q.rd a, b⟩
  | @mo p o m a b =>
    cases b with
    | L r => cases e; exact ⟨_, _, rfl, .inl a, r⟩
    | K => cases e
    | T => cases e
theorem Lk.tup {K : Fg} {F H : Hp} {v : V} {ds : List D} (h : Lk K F H v (.tuple ds)) (q : Sub F H) : ∃ a xs, v = .ref a ∧ SqT K H a xs ∧ RpA K F xs ds ∧ Rp K F v (.tuple ds) := by
  generalize e : (PyData.tuple ds : D) = d at h
  cases h with
  | rp a => subst e; exact (by cases a with | tup a b => exact ⟨_, _, rfl, q.sqT a.sqT, b, .tup a b⟩)
  | @mo p o m a b => cases m <;> cases e
theorem rd_list {P : Program} {w : World} {H : Hp} {h : Heap} {a : Addr} {xs : List V} (q : Rd H a (.lst xs)) (k : HOk P w H h) : xs.length ≤ sizeLine ∧ ∃ (its : List Value) (n : Nat), Vals xs its ∧ h.get? a = some { cls := .type "list", data := .seq its.toArray n } := by
  have z := q.ok k
  exact z
def rCatR : R2 := fun x y H Q => ∃ l b xs zs, x = .ref l ∧ y = .ref b ∧ Rd H l (.lst xs) ∧ Rd H b (.lst zs) ∧ xs.length + zs.length ≤ sizeLine ∧ ∀ p, H p = none → Q (.ref p) (upd H p (.lst (xs ++ zs)))
theorem op_catR : OpR X (binaryOp .Add) rCatR := by
  rintro pins s σ H _ _ v u Q I rx ry ⟨l, b, xs, zs, rfl, rfl, h1, h2, hz, q⟩
  cases rx; cases ry
  obtain ⟨_, i1, n1, r1, e1⟩ := rd_list h1 I.hok
  obtain ⟨_, i2, n2, r2, e2⟩ := rd_list h2 I.hok
  have l1 := r1.length
  have l2 := r2.length
  refine PySem.P.add_list e1 e2 ?_ (by rw [List.size_toArray, List.size_toArray]; omega)
  rw [show i1.toArray ++ i2.toArray = (i1 ++ i2).toArray by simp]
  exact ⟨.ref _, _, I.lnew (t' := s.toks) (r1.append r2) (by rw [List.length_append]; omega), rfl, q _ I.fresh⟩
/-- the answer is flat -/
theorem RR.flat {K : Fg} {e : En} {F : Hp} {r : Rho} {s : L2.St} {H : Hp} {v : V} {d : D} (h : Rp K F v d) : RR K e F r s H (.val d) v := .val h
/-- a new list, own -/
theorem RR.newL {K : Fg} {e : En} {F : Hp} {r : Rho} {s : L2.St} {H : Hp} {p : Addr} {xs : List V} {ds : List D} (k : Ok K e F r s H) (h : H p = none) (a : RpA K F xs ds) : RR K e F r s (upd H p (.lst xs)) (.own (.L ds)) (.ref p) :=
  .own upd_same (.L a) (k.free h).1 (k.free h).2.1 (k.free h).2.2 (k.nobox h)
theorem RR.newT {K : Fg} {e : En} {F : Hp} {r : Rho} {s : L2.St} {H : Hp} {p : Addr} {o : Obj} {xs : List V} {ds : List D} (k : Ok K e F r s H) (h : H p = none) (hd : o.dict = none) (a : RpA K F xs ds) : RR K e (upd F p (tupO o xs)) r s (upd H p (tupO o xs)) (.val (.tuple ds)) (.ref p) :=
  .val (.tup (TpOk.new hd a) (a.mono (Sub.new (k.free h).1)))
def fAdd : F2
  | .int i, .int j => some (.val (.int (i + j)))
  | .str a, .str b => if a.length + b.length ≤ sizeLine then some (.val (.str (a ++ b))) else none
  | .list a, .list b => if a.length + b.length ≤ sizeLine then some (.own (.L (a ++ b))) else none
  | .tuple a, .tuple b => if a.length + b.length ≤ sizeLine then some (.val (.tuple (a ++ b))) else none
  | _, _ => none
theorem opd_add : OpD X (binaryOp .Add) fAdd := by
  refine ⟨_, OpR.or op_add (OpR.or op_add_str (OpR.or op_catR op_catZ)), fun e F r s H v1 v2 d1 d2 z Q k l1 l2 ef w => ?_⟩
  unfold fAdd at ef
  split at ef
  · cases ef
    exact .inl ⟨_, _, l1.int, l2.int, w _ F H k (Sub.refl F) (.val (.int _))⟩
  · split at ef
    · rename_i hz; cases ef
      exact .inr (.inl ⟨_, _, l1.str, l2.str, hz, w _ F H k (Sub.refl F) (.val (.str _))⟩)
    · cases ef
  · split at ef
    · rename_i hz; cases ef
      obtain ⟨a, xs, e1, h1, r1⟩ := l1.lst k.sub
      obtain ⟨b, ys, e2, h2, r2⟩ := l2.lst k.sub
      refine .inr (.inr (.inl ⟨a, b, xs, ys, e1, e2, h1, h2, by rw [r1.length, r2.length]; exact hz, fun p hp => ?_⟩))
      exact w _ F _ (k.alloc hp) (Sub.refl F) (.newL k hp (r1.append r2))
    · cases ef
  · split at ef
    · rename_i hz; cases ef
      obtain ⟨a, xs, e1, h1, r1, p1⟩ := l1.tup k.sub
      obtain ⟨b, ys, e2, h2, r2, p2⟩ := l2.tup k.sub
      refine .inr (.inr (.inr ⟨a, b, xs, ys, e1, e2, h1, h2, by rw [r1.length, r2.length]; exact hz, fun q => ?_, fun _ q => ?_, fun _ _ p o hp hd => ?_⟩))
      · subst q; cases r1; subst e2; exact w _ F H k (Sub.refl F) (.val p2)
      · subst q; cases r2; subst e1; rw [List.append_nil] at w; exact w _ F H k (Sub.refl F) (.val p1)
      · exact w _ _ _ (k.lay hp) (Sub.new (k.free hp).1) (.newT k hp hd (r1.append r2))
    · cases ef
  · cases ef
def fSub : F2
  | .int i, .int j => some (.val (.int (i - j)))
  | _, _ => none
theorem opd_sub : OpD X (binaryOp .Sub) fSub := by
  refine ⟨_, op_sub, fun e F r s H v1 v2 d1 d2 z Q k l1 l2 ef w => ?_⟩
  unfold fSub at ef
  split at ef
  · cases ef
    exact ⟨_, _, l1.int, l2.int, w _ F H k (Sub.refl F) (.val (.int _))⟩
  · cases ef
def small (i : Int) : Bool := decide (-(2 ^ 64) < i) && decide (i < 2 ^ 64)
theorem op_mul_str : OpR X (binaryOp .Mult) (fun x y H Q => ∃ a n, x = .str a ∧ y = .int n ∧ MulOk a n ∧ Q (.str (Txt.mul a n)) H) := by
  rintro pins s σ H _ _ v u Q I rx ry ⟨a, n, rfl, rfl, hk, q⟩
  obtain ⟨t, rfl⟩ := rx
  obtain ⟨t', rfl⟩ := ry
  exact PySem.SB.mul hk fun t2 k => ⟨.str _, H, I.tok _, ⟨_, rfl⟩, q⟩
theorem mulOk_of {a : Str} {n : Int} (h : a.length * n.toNat ≤ 1000000) (h2 : n < 1000000) (h1 : -1000000 < n) : MulOk a n := by
  refine ⟨?_, fun h3 h4 => ?_, fun _ _ => ?_⟩
  · simp only [Bool.or_eq_false_iff, decide_eq_false_iff_not]
    omega
  · have hn : (1 : Int) ≤ n := by omega
    obtain ⟨m, rfl⟩ : ∃ m : Nat, n = (m : Int) := ⟨n.toNat, by omega⟩
    have h5 : a.length * m ≤ 1000000 := h
    have : (a.length : Int) * m ≤ 1000000 := by rw [← Int.natCast_mul]; omega
    have h6 : (a.length : Int) ≤ (2 ^ 63 - 1) / (m : Int) := (Int.le_ediv_iff_mul_le (by omega)).mpr (by omega)
    omega
  · have : sizeLine = 16777216 := sizeLine_eq
    exact decide_eq_false (by omega)
def fMul : F2
  | .int i, .int j => if small i || small j then some (.val (.int (i * j))) else none
  | .str a, .int n => if a.length * n.toNat ≤ 1000000 ∧ n < 1000000 ∧ -1000000 < n then some (.val (.str (Txt.mul a n))) else none
  | .tuple a, .int n => if a ≠ [] ∧ 2 ≤ n ∧ n ≤ 1000 ∧ a.length ≤ 1000 ∧ (List.replicate n.toNat a).flatten.all noInt = false then some (.val (.tuple (List.replicate n.toNat a).flatten)) else none
  | _, _ => none
theorem RpA.rep {K : Fg} {F : Hp} {vs : List V} {ds : List D} (h : RpA K F vs ds) (n : Nat) : RpA K F (List.replicate n vs).flatten (List.replicate n ds).flatten := by
  induction n with
  | zero => exact .nil
  | succ n ih => rw [List.replicate_succ, List.replicate_succ, List.flatten_cons, List.flatten_cons]; exact h.append ih
theorem RpA.ne {K : Fg} {F : Hp} {vs : List V} {ds : List D} (h : RpA K F vs ds) (q : ds ≠ []) : vs ≠ [] := by
  rintro rfl; cases h; exact q rfl
theorem opd_mul : OpD X (binaryOp .Mult) fMul := by
  refine ⟨_, OpR.or op_mul (OpR.or op_mul_str op_repT), fun e F r s H v1 v2 d1 d2 z Q k l1 l2 ef w => ?_⟩
  unfold fMul at ef
  split at ef
  · split at ef
    · rename_i hz; cases ef
      refine .inl ⟨_, _, l1.int, l2.int, ?_, w _ F H k (Sub.refl F) (.val (.int _))⟩
      simp only [small, Bool.or_eq_true, Bool.and_eq_true, decide_eq_true_eq] at hz
      exact hz
    · cases ef
  · split at ef
    · rename_i hz; cases ef
      exact .inr (.inl ⟨_, _, l1.str, l2.int, mulOk_of hz.1 hz.2.1 hz.2.2, w _ F H k (Sub.refl F) (.val (.str _))⟩)
    · cases ef
  · split at ef
    · rename_i hz; cases ef
      obtain ⟨a, xs, e1, h1, r1, p1⟩ := l1.tup k.sub
      refine .inr (.inr ⟨a, _, xs, e1, l2.int, h1, r1.ne hz.1, hz.2.1, hz.2.2.1, by rw [r1.length]; exact hz.2.2.2.1, fun p hp => ?_⟩)
      exact w _ _ _ (k.lay hp) (Sub.new (k.free hp).1) (.val (.tup (.inl ⟨upd_same, hz.2.2.2.2⟩) ((r1.rep _).mono (Sub.new (k.free hp).1))))
    · cases ef
  · cases ef
def fDiv : F2
  | .int i, .int j => if 0 < j ∧ j < 1073741824 then some (.val (.int (i / j))) else none
  | _, _ => none
theorem opd_div : OpD X (binaryOp .FloorDiv) fDiv := by
  refine ⟨_, op_fdiv, fun e F r s H v1 v2 d1 d2 z Q k l1 l2 ef w => ?_⟩
  unfold fDiv at ef
  split at ef
  · split at ef
    · rename_i hz; cases ef
      exact ⟨_, _, l1.int, l2.int, hz, w _ F H k (Sub.refl F) (.val (.int _))⟩
    · cases ef
  · cases ef
def fMod : F2
  | .int i, .int j => if 0 < j then some (.val (.int (i % j))) else none
  | _, _ => none
theorem opd_mod : OpD X (binaryOp .Mod) fMod := by
  refine ⟨_, op_mod, fun e F r s H v1 v2 d1 d2 z Q k l1 l2 ef w => ?_⟩
  unfold fMod at ef
  split at ef
  · split at ef
    · rename_i hz; cases ef
      exact ⟨_, _, l1.int, l2.int, hz, w _ F H k (Sub.refl F) (.val (.int _))⟩
    · cases ef
  · cases ef
def fPow : F2
  | .int i, .int j => if 0 ≤ j ∧ j ≤ 100 ∧ i.natAbs < 2 ^ 4096 then some (.val (.int (i ^ j.toNat))) else none
  | _, _ => none
theorem op_powW : OpR X (binaryOp .Pow) (rI (fun i j => 0 ≤ j ∧ j ≤ 100 ∧ i.natAbs < 2 ^ 4096) fun i j => .int (i ^ j.toNat)) := opI fun i j _ _ _ _ _ hc q => by
  refine pow_int hc.1 ?_ q
  have h1 : Builtin.Int.intBits i ≤ 4096 := intBits_le hc.2.2
  have h2 := hc.1
  have h3 := hc.2.1
  have : (Builtin.Int.intBits i : Int) * j ≤ 4096 * 100 := Int.mul_le_mul (by omega) h3 h2 (by omega)
  omega
theorem opd_pow : OpD X (binaryOp .Pow) fPow := by
  refine ⟨_, op_powW, fun e F r s H v1 v2 d1 d2 z Q k l1 l2 ef w => ?_⟩
  unfold fPow at ef
  split at ef
  · split at ef
    · rename_i hz; cases ef
      exact ⟨_, _, l1.int, l2.int, hz, w _ F H k (Sub.refl F) (.val (.int _))⟩
    · cases ef
  · cases ef
end
theorem rq_if {α : Type} {c A : Prop} [Decidable c] {x : α} (h : Rq c A) : (if c then some x else none) = some x := if_pos h.c
def kAdd : D → D → (R → Prop) → Prop
  | .int i, .int j, K => K (.val (.int (i + j)))
  | .str x, .str y, K => Rq (x.length + y.length ≤ sizeLine) (K (.val (.str (x ++ y))))
  | .list x, .list y, K => Rq (x.length + y.length ≤ sizeLine) (K (.own (.L (x ++ y))))
  | .tuple x, .tuple y, K => Rq (x.length + y.length ≤ sizeLine) (K (.val (.tuple (x ++ y))))
  | _, _, _ => False
def oAdd : OpK := ⟨fAdd, kAdd, fun d1 d2 K h => by
  cases d1 <;> cases d2 <;> first
    | exact h.elim
    | exact ⟨_, rfl, h⟩
    | exact ⟨_, rq_if h, Rq.a h⟩⟩
def kSub : D → D → (R → Prop) → Prop
  | .int i, .int j, K => K (.val (.int (i - j)))
  | _, _, _ => False
def oSub : OpK := ⟨fSub, kSub, fun d1 d2 K h => by
  cases d1 <;> cases d2 <;> first
    | exact h.elim
    | exact ⟨_, rfl, h⟩⟩
def kMul : D → D → (R → Prop) → Prop
  | .int i, .int j, K => Rq ((-(2 ^ 64) < i ∧ i < 2 ^ 64) ∨ (-(2 ^ 64) < j ∧ j < 2 ^ 64)) (K (.val (.int (i * j))))
  | .str a, .int n, K => Rq (a.length * n.toNat ≤ 1000000 ∧ n < 1000000 ∧ -1000000 < n) (K (.val (.str (Txt.mul a n))))
  | .tuple a, .int n, K => Rq (a ≠ [] ∧ 2 ≤ n ∧ n ≤ 1000 ∧ a.length ≤ 1000 ∧ (List.replicate n.toNat a).flatten.all noInt = false) (K (.val (.tuple (List.replicate n.toNat a).flatten)))
  | _, _, _ => False
def oMul : OpK := ⟨fMul, kMul, fun d1 d2 K h => by
  cases d1 <;> cases d2 <;> first
    | exact h.elim
    | exact ⟨_, rq_if h, Rq.a h⟩
    | (refine ⟨_, if_pos ?_, Rq.a h⟩
       simp only [small, Bool.or_eq_true, Bool.and_eq_true, decide_eq_true_eq]
       exact Rq.c h)⟩
def kDiv : D → D → (R → Prop) → Prop
  | .int i, .int j, K => Rq (0 < j ∧ j < 1073741824) (K (.val (.int (i / j))))
  | _, _, _ => False
def oDiv : OpK := ⟨fDiv, kDiv, fun d1 d2 K h => by
  cases d1 <;> cases d2 <;> first
    | exact h.elim
    | exact ⟨_, rq_if h, Rq.a h⟩⟩
def kMod : D → D → (R → Prop) → Prop
  | .int i, .int j, K => Rq (0 < j) (K (.val (.int (i % j))))
  | _, _, _ => False
def oMod : OpK := ⟨fMod, kMod, fun d1 d2 K h => by
  cases d1 <;> cases d2 <;> first
    | exact h.elim
    | exact ⟨_, rq_if h, Rq.a h⟩⟩
theorem big_pow {a : Int} (h1 : 0 ≤ a) (h2 : a ≤ 2 ^ 200) : a.natAbs < 2 ^ 4096 := by
  have h3 : a.natAbs ≤ 2 ^ 200 := by
    have : (a.natAbs : Int) ≤ ((2 ^ 200 : Nat) : Int) := by rw [Int.natAbs_of_nonneg h1]; exact h2
    exact Int.ofNat_le.mp this
  exact Nat.lt_of_le_of_lt h3 (Nat.pow_lt_pow_right (by decide) (by decide))
def kPow : D → D → (R → Prop) → Prop
  | .int i, .int j, K => Rq ((0 ≤ j ∧ j ≤ 100) ∧ 0 ≤ i ∧ i ≤ 2 ^ 200) (K (.val (.int (i ^ j.toNat))))
  | _, _, _ => False
def oPow : OpK := ⟨fPow, kPow, fun d1 d2 K h => by
  cases d1 <;> cases d2 <;> first
    | exact h.elim
    | exact ⟨_, if_pos ⟨(Rq.c h).1.1, (Rq.c h).1.2, big_pow (Rq.c h).2.1 (Rq.c h).2.2⟩, Rq.a h⟩⟩
end DL
namespace DL
open PySem L2 PyProof.Rows
section
variable {X : Cx}
def flatD : D → Bool
  | .none | .bool _ | .int _ | .str _ => true
  | _ => false
def toV : D → V
  | .none => .non
  | .bool b => .bl b
  | .int i => .int i
  | .str x => .str x
  | _ => .non
theorem Lk.flat {K : Fg} {F H : Hp} {v : V} {d : D} (h : Lk K F H v d) (f : flatD d = true) : v = toV d := by
  cases d <;> first
    | exact h.non
    | exact h.bl
    | exact h.int
    | exact h.str
    | cases f
theorem flatV_toV (d : D) (f : flatD d = true) : flatV (toV d) = true := by cases d <;> first | rfl | cases f
theorem eqV_toV (a b : D) (fa : flatD a = true) (fb : flatD b = true) : eqV (toV a) (toV b) = PyData.eqv a b := by
  cases a <;> cases b <;> first | rfl | exact Bool.noConfusion (show false = true from fa) | exact Bool.noConfusion (show false = true from fb)
/-- pairs of flat data that == tells apart as data -/
def scalD (a b : D) : Bool := flatD a && flatD b && scal (toV a) (toV b)
theorem scal_eq (a b : D) (h : scalD a b = true) : decide (toV a = toV b) = PyData.eqv a b := by
  simp only [scalD, Bool.and_eq_true] at h
  obtain ⟨⟨fa, fb⟩, h⟩ := h
  cases a <;> cases b <;> first
    | exact Bool.noConfusion (show false = true from fa)
    | exact Bool.noConfusion (show false = true from fb)
    | (simp [toV, PyData.eqv]; done)
    | (simp [toV, PyData.eqv, Bool.beq_eq_decide_eq]; done)
    | (exact absurd (show false = true from h) Bool.false_ne_true)
mutual
theorem Rp.dp {K : Fg} {H : Hp} : ∀ {v : V} {d : D}, Rp K H v d → d.hasDict = false → Dp K H v d
  | _, _, .non, _ => .non
  | _, _, .bl b, _ => .bl b
  | _, _, .int i, _ => .int i
  | _, _, .str x, _ => .str x
  | _, _, .lst h r, q => .lst (.inl h) (RpA.dp r (by simpa [PyData.hasDict] using q))
  | _, _, .tup h r, q => .tup h.sqT (RpA.dp r (by simpa [PyData.hasDict] using q))
  | _, _, .dct _ _ _ _, q => by simp [PyData.hasDict] at q
theorem RpA.dp {K : Fg} {H : Hp} : ∀ {v : List V} {d : List D}, RpA K H v d → PyData.hasDictAll d = false → DpAll K H v d
  | _, _, .nil, _ => .nil
  | _, _, .cons h r, q => by
    simp only [PyData.hasDictAll, Bool.or_eq_false_iff] at q
    exact .cons (Rp.dp h q.1) (RpA.dp r q.2)
end
theorem shaped_nodict {d : D} (h : SeqAt.shaped d = true) : d.hasDict = false := PyData.hasDict_of_canLay d (SeqAt.canLay_of_shaped h)
def fEqB (neg : Bool) : F2 := fun a b => if scalD a b || (SeqAt.shaped a && SeqAt.shaped b) then some (.val (.bool (if neg then !PyData.eqv a b else PyData.eqv a b))) else none
abbrev fEq : F2 := fEqB false
abbrev fNe : F2 := fEqB true
theorem opd_eq (hu : X.A.units + 64 < cLine) : OpD X (compareOp .Eq) fEq := by
  refine ⟨_, OpR.or op_eq (op_eqD hu), fun e F r s H v1 v2 d1 d2 z Q k l1 l2 ef w => ?_⟩
  simp only [fEq, fEqB] at ef
  split at ef
  · rename_i hh
    cases ef
    rcases Bool.or_eq_true_iff.mp hh with h | h
    · have h0 := h
      simp only [scalD, Bool.and_eq_true] at h0
      refine .inl ?_
      rw [l1.flat h0.1.1, l2.flat h0.1.2]
      refine ⟨h0.2, ?_⟩
      rw [scal_eq _ _ h]
      exact w _ F H k (Sub.refl F) (.val (.bl _))
    · rw [Bool.and_eq_true] at h
      exact .inr ⟨d1, d2, (l1.all k.sub).dp (shaped_nodict h.1), (l2.all k.sub).dp (shaped_nodict h.2), h.1, h.2, w _ F H k (Sub.refl F) (.val (.bl _))⟩
  · cases ef
theorem opd_ne (hu : X.A.units + 64 < cLine) : OpD X (compareOp .NotEq) fNe := by
  refine ⟨_, OpR.or op_ne (op_neD hu), fun e F r s H v1 v2 d1 d2 z Q k l1 l2 ef w => ?_⟩
  simp only [fNe, fEqB] at ef
  split at ef
  · rename_i hh
    cases ef
    rcases Bool.or_eq_true_iff.mp hh with h | h
    · have h0 := h
      simp only [scalD, Bool.and_eq_true] at h0
      refine .inl ?_
      rw [l1.flat h0.1.1, l2.flat h0.1.2]
      refine ⟨h0.2, ?_⟩
      rw [scal_eq _ _ h]
      exact w _ F H k (Sub.refl F) (.val (.bl _))
    · rw [Bool.and_eq_true] at h
      exact .inr ⟨d1, d2, (l1.all k.sub).dp (shaped_nodict h.1), (l2.all k.sub).dp (shaped_nodict h.2), h.1, h.2, w _ F H k (Sub.refl F) (.val (.bl _))⟩
  · cases ef
def fLt : F2
  | .int i, .int j => some (.val (.bool (decide (i < j))))
  | .str a, .str b => some (.val (.bool (decide (a.cps.toList < b.cps.toList))))
  | _, _ => none
theorem opd_lt : OpD X (compareOp .Lt) fLt := by
  refine ⟨_, OpR.or op_lt op_lt_str, fun e F r s H v1 v2 d1 d2 z Q k l1 l2 ef w => ?_⟩
  unfold fLt at ef
  split at ef
  · cases ef; exact .inl ⟨_, _, l1.int, l2.int, w _ F H k (Sub.refl F) (.val (.bl _))⟩
  · cases ef; exact .inr ⟨_, _, l1.str, l2.str, w _ F H k (Sub.refl F) (.val (.bl _))⟩
  · cases ef
def fGt : F2
  | .int i, .int j => some (.val (.bool (decide (j < i))))
  | _, _ => none
theorem opd_gt : OpD X (compareOp .Gt) fGt := by
  refine ⟨_, op_gt, fun e F r s H v1 v2 d1 d2 z Q k l1 l2 ef w => ?_⟩
  unfold fGt at ef
  split at ef
  · cases ef; exact ⟨_, _, l1.int, l2.int, w _ F H k (Sub.refl F) (.val (.bl _))⟩
  · cases ef
def fGe : F2
  | .int i, .int j => some (.val (.bool (decide (j ≤ i))))
  | _, _ => none
theorem opd_ge : OpD X (compareOp .GtE) fGe := by
  refine ⟨_, op_ge, fun e F r s H v1 v2 d1 d2 z Q k l1 l2 ef w => ?_⟩
  unfold fGe at ef
  split at ef
  · cases ef; exact ⟨_, _, l1.int, l2.int, w _ F H k (Sub.refl F) (.val (.bl _))⟩
  · cases ef
def strIn (a b : Str) : Bool := !(Builtin.Str.occurrences b a 0 b.length 1).isEmpty
def flatIn (x : D) (ds : List D) : Bool := ds.any fun y => PyData.eqv y x
def fInB (neg : Bool) : F2 := fun x y => match y with
  | .str b => match x with
    | .str a => some (.val (.bool (if neg then !strIn a b else strIn a b)))
    | _ => none
  | .list ds => if flatD x && ds.all flatD then some (.val (.bool (if neg then !flatIn x ds else flatIn x ds))) else if SeqAt.shaped x && SeqAt.shaped (.list ds) then some (.val (.bool (if neg then !flatIn x ds else flatIn x ds))) else none
  | .tuple ds => if flatD x && ds.all flatD then some (.val (.bool (if neg then !flatIn x ds else flatIn x ds))) else none
  | _ => none
abbrev fIn : F2 := fInB false
theorem RpA.flat {K : Fg} {F : Hp} : ∀ {vs : List V} {ds : List D}, RpA K F vs ds → ds.all flatD = true → vs = ds.map toV
  | _, _, .nil, _ => rfl
  | _, _, .cons h r, q => by
    simp only [List.all_cons, Bool.and_eq_true] at q
    rw [List.map_cons, RpA.flat r q.2, (Lk.rp h : Lk K F F _ _).flat q.1]
theorem inV_flat (x : D) (ds : List D) (f : flatD x = true) (q : ds.all flatD = true) : inV (toV x) (ds.map toV) = flatIn x ds := by
  unfold inV flatIn
  induction ds with
  | nil => rfl
  | cons d ds ih =>
    simp only [List.all_cons, Bool.and_eq_true] at q
    rw [List.map_cons, List.any_cons, List.any_cons, ih q.2, eqV_toV _ _ q.1 f]
theorem all_flatV (ds : List D) (q : ds.all flatD = true) : (ds.map toV).all flatV = true := by
  rw [List.all_map]
  rw [List.all_eq_true] at q ⊢
  exact fun d hd => flatV_toV d (q d hd)
theorem in_read {K : Fg} {neg : Bool} {e : En} {F : Hp} {r : Rho} {s : L2.St} {H : Hp} {v1 v2 : V} {x : D} {ds : List D} {Q : VK} {a : Addr} {xs : List V} (k : Ok K e F r s H) (l1 : Lk K F H v1 x) (e2 : v2 = .ref a) (h2 : SqL K H a xs ∨ SqT K H a xs) (r2 : RpA K F xs ds)
    (hf : (flatD x && ds.all flatD) = true) (w : ∀ v F' H', Ok K e F' r s H' → Sub F F' → RR K e F' r s H' (.val (.bool (if neg then !flatIn x ds else flatIn x ds))) v → Q v H') : rIn K neg v1 v2 H Q := by
  rw [Bool.and_eq_true] at hf
  have q := r2.flat hf.2
  subst q
  refine ⟨a, _, e2, h2, by rw [l1.flat hf.1]; exact flatV_toV x hf.1, all_flatV ds hf.2, ?_⟩
  rw [l1.flat hf.1, inV_flat x ds hf.1 hf.2]
  exact w _ F H k (Sub.refl F) (.val (.bl _))
theorem opd_in (hu : X.A.units + 65 < cLine) : OpD X (compareOp .In) fIn := by
  refine ⟨_, OpR.or op_in_str (OpR.or op_in_seq (op_inD hu)), fun e F r s H v1 v2 d1 d2 z Q k l1 l2 ef w => ?_⟩
  simp only [fIn, fInB] at ef
  split at ef
  · split at ef
    · cases ef; exact .inl ⟨_, _, l1.str, l2.str, w _ F H k (Sub.refl F) (.val (.bl _))⟩
    · cases ef
  · split at ef
    · rename_i hf; cases ef
      obtain ⟨a, xs, e2, h2, r2⟩ := l2.lst k.sub
      exact .inr (.inl (in_read (neg := false) k l1 e2 (.inl (.inl h2)) r2 hf w))
    · split at ef
      · rename_i hf; cases ef
        rw [Bool.and_eq_true] at hf
        exact .inr (.inr ⟨_, _, (l1.all k.sub).dp (shaped_nodict hf.1), (l2.all k.sub).dp (shaped_nodict hf.2), hf.1, hf.2, w _ F H k (Sub.refl F) (.val (.bl _))⟩)
      · cases ef
  · split at ef
    · rename_i hf; cases ef
      obtain ⟨a, xs, e2, h2, r2, _⟩ := l2.tup k.sub
      exact .inr (.inl (in_read (neg := false) k l1 e2 (.inr h2) r2 hf w))
    · cases ef
  · cases ef
def isNone : D → Bool
  | .none => true
  | _ => false
theorem Lk.isN {K : Fg} {F H : Hp} {v : V} {d : D} (h : Lk K F H v d) : decide (v = .non) = isNone d := by
  cases h with
  | rp a => cases a <;> simp [isNone]
  | @mo p o m a b => cases m <;> simp [isNone, MB.toD]
def fIsB (neg : Bool) : F2 := fun a b => match b with
  | .none => some (.val (.bool (if neg then !isNone a else isNone a)))
  | .bool y => match a with
    | .bool x => some (.val (.bool (if neg then !decide (x = y) else decide (x = y))))
    | _ => none
  | _ => none
abbrev fIsNot : F2 := fIsB true
theorem opd_isnot : OpD X (compareOp .IsNot) fIsNot := by
  refine ⟨_, OpR.or op_notN op_isnot_bl, fun e F r s H v1 v2 d1 d2 z Q k l1 l2 ef w => ?_⟩
  simp only [fIsNot, fIsB] at ef
  split at ef
  · cases ef
    refine .inl ⟨l2.non, ?_⟩
    rw [l1.isN]
    exact w _ F H k (Sub.refl F) (.val (.bl _))
  · split at ef
    · cases ef; exact .inr ⟨_, _, l1.bl, l2.bl, w _ F H k (Sub.refl F) (.val (.bl _))⟩
    · cases ef
  · cases ef
end
def kEq : D → D → (R → Prop) → Prop
  | .int a, .int b, K => K (.val (.bool (decide (a = b))))
  | .str a, .str b, K => K (.val (.bool (decide (a = b))))
  | a, b, K => rqB (scalD a b || (SeqAt.shaped a && SeqAt.shaped b)) (K (.val (.bool (PyData.eqv a b))))
def kNe : D → D → (R → Prop) → Prop
  | .int a, .int b, K => K (.val (.bool (!decide (a = b))))
  | .str a, .str b, K => K (.val (.bool (!decide (a = b))))
  | a, b, K => rqB (scalD a b || (SeqAt.shaped a && SeqAt.shaped b)) (K (.val (.bool (!PyData.eqv a b))))
theorem f_eq_int {a b : Int} : fEq (.int a) (.int b) = some (.val (.bool (decide (a = b)))) := by
  have h : scalD (.int a) (.int b) = true := by rfl
  simp [fEqB, h, PyData.eqv, Bool.beq_eq_decide_eq]
theorem f_ne_int {a b : Int} : fNe (.int a) (.int b) = some (.val (.bool (!decide (a = b)))) := by
  have h : scalD (.int a) (.int b) = true := by rfl
  simp [fEqB, h, PyData.eqv, Bool.beq_eq_decide_eq]
theorem f_eq_str {x y : Str} : fEq (.str x) (.str y) = some (.val (.bool (decide (x = y)))) := by
  have h : scalD (.str x) (.str y) = true := by rfl
  simp [fEqB, h, PyData.eqv, Bool.beq_eq_decide_eq]
theorem f_ne_str {x y : Str} : fNe (.str x) (.str y) = some (.val (.bool (!decide (x = y)))) := by
  have h : scalD (.str x) (.str y) = true := by rfl
  simp [fEqB, h, PyData.eqv, Bool.beq_eq_decide_eq]
theorem eq_ok {a b : D} {K : R → Prop} (h : rqB (scalD a b || (SeqAt.shaped a && SeqAt.shaped b)) (K (.val (.bool (PyData.eqv a b))))) : ∃ z, fEq a b = some z ∧ K z := by
  obtain ⟨h1, h2⟩ := rqB.ex h
  exact ⟨_, by simp only [fEqB, h1, if_true]; rfl, h2⟩
theorem ne_ok {a b : D} {K : R → Prop} (h : rqB (scalD a b || (SeqAt.shaped a && SeqAt.shaped b)) (K (.val (.bool (!PyData.eqv a b))))) : ∃ z, fNe a b = some z ∧ K z := by
  obtain ⟨h1, h2⟩ := rqB.ex h
  exact ⟨_, by simp only [fEqB, h1, if_true], h2⟩
def oEq : OpK := ⟨fEq, kEq, fun d1 d2 K h => by
  unfold kEq at h
  split at h
  · exact ⟨_, f_eq_int, h⟩
  · exact ⟨_, f_eq_str, h⟩
  · exact eq_ok h⟩
def oNe : OpK := ⟨fNe, kNe, fun d1 d2 K h => by
  unfold kNe at h
  split at h
  · exact ⟨_, f_ne_int, h⟩
  · exact ⟨_, f_ne_str, h⟩
  · exact ne_ok h⟩
def kLt : D → D → (R → Prop) → Prop
  | .int i, .int j, K => K (.val (.bool (decide (i < j))))
  | .str a, .str b, K => K (.val (.bool (decide (a.cps.toList < b.cps.toList))))
  | _, _, _ => False
def oLt : OpK := ⟨fLt, kLt, fun d1 d2 K h => by
  cases d1 <;> cases d2 <;> first
    | exact h.elim
    | exact ⟨_, rfl, h⟩⟩
def kGt : D → D → (R → Prop) → Prop
  | .int i, .int j, K => K (.val (.bool (decide (j < i))))
  | _, _, _ => False
def oGt : OpK := ⟨fGt, kGt, fun d1 d2 K h => by
  cases d1 <;> cases d2 <;> first
    | exact h.elim
    | exact ⟨_, rfl, h⟩⟩
def kGe : D → D → (R → Prop) → Prop
  | .int i, .int j, K => K (.val (.bool (decide (j ≤ i))))
  | _, _, _ => False
def oGe : OpK := ⟨fGe, kGe, fun d1 d2 K h => by
  cases d1 <;> cases d2 <;> first
    | exact h.elim
    | exact ⟨_, rfl, h⟩⟩
def kInB (neg : Bool) (x y : D) (K : R → Prop) : Prop := match y with
  | .str b => match x with
    | .str a => K (.val (.bool (xor neg (strIn a b))))
    | _ => False
  | .list ds => rqB ((flatD x && ds.all flatD) || (SeqAt.shaped x && SeqAt.shaped (.list ds))) (K (.val (.bool (xor neg (flatIn x ds)))))
  | .tuple ds => rqB (flatD x && ds.all flatD) (K (.val (.bool (xor neg (flatIn x ds)))))
  | _ => False
theorem xor_if (neg b : Bool) : (if neg = true then !b else b) = xor neg b := by cases neg <;> cases b <;> rfl
theorem inB_ok (neg : Bool) (x y : D) (K : R → Prop) (h : kInB neg x y K) : ∃ z, fInB neg x y = some z ∧ K z := by
  unfold kInB at h
  unfold fInB
  split at h
  · split at h
    · exact ⟨_, by simp only [xor_if], h⟩
    · exact h.elim
  · obtain ⟨h1, h2⟩ := rqB.ex h
    rw [Bool.or_eq_true] at h1
    refine ⟨_, ?_, h2⟩
    simp only [xor_if]
    split
    · rfl
    · rename_i n
      rcases h1 with h1 | h1
      · exact absurd h1 n
      · rw [if_pos h1]
  · obtain ⟨h1, h2⟩ := rqB.ex h
    exact ⟨_, by simp only [h1, if_true, xor_if], h2⟩
  · exact h.elim
def oIn : OpK := ⟨fIn, kInB false, inB_ok false⟩
def kIsB (neg : Bool) (a b : D) (K : R → Prop) : Prop := match b with
  | .none => K (.val (.bool (xor neg (isNone a))))
  | .bool y => match a with
    | .bool x => K (.val (.bool (xor neg (decide (x = y)))))
    | _ => False
  | _ => False
theorem isB_ok (neg : Bool) (x y : D) (K : R → Prop) (h : kIsB neg x y K) : ∃ z, fIsB neg x y = some z ∧ K z := by
  unfold kIsB at h
  unfold fIsB
  split at h
  · exact ⟨_, by simp only [xor_if], h⟩
  · split at h
    · exact ⟨_, by simp only [xor_if], h⟩
    · exact h.elim
  · exact h.elim
def oIsNot : OpK := ⟨fIsNot, kIsB true, isB_ok true⟩
end DL
namespace DL
open PySem L2 PyProof.Rows
abbrev PoB := Bool → Rho → Prop
abbrev MT := Rho → PoB → Prop
def TB (K : Fg) (e : En) (m : MT) : TT := fun s H Q => ∃ F r, Ok K e F r s H ∧ ∃ P : PoB, m r P ∧ ∀ b r' F' H', P b r' → Ok K e F' r' s H' → Sub F F' → Q b H'
def DT (X : Cx) (a : Expr) (m : MT) : Prop := ∀ e, PT X a (TB X.K e m)
theorem PT.imp {X : Cx} {a : Expr} {t u : TT} (h : PT X a t) (i : ∀ s H Q, u s H Q → t s H Q) : PT X a u := ⟨fun pins s σ H Q I q => h.run pins s σ H Q I (i _ _ _ q)⟩
def DW (X : Cx) (a : Expr) (m : MT) : Prop := ∀ e, PW X a (TB X.K e m)
theorem PW.imp {X : Cx} {a : Expr} {t u : TT} (h : PW X a t) (i : ∀ s H Q, u s H Q → t s H Q) : PW X a u := ⟨fun wh pins s σ H Q I q => h.run wh pins s σ H Q I (i _ _ _ q)⟩
def truth : D → Option Bool
  | .none => some false
  | .bool b => some b
  | .int i => some (i != 0)
  | .str x => if x.length ≤ sizeLine then some ((x.length : Int) != 0) else none
  | .list ds => some (!ds.isEmpty)
  | .tuple ds => some (!ds.isEmpty)
  | .dict _ => none
theorem RpA.isEmpty {K : Fg} {F : Hp} {vs : List V} {ds : List D} (h : RpA K F vs ds) : vs.isEmpty = ds.isEmpty := by cases h <;> rfl
theorem Lk.tru {K : Fg} {F H : Hp} {v : V} {d : D} {b : Bool} (h : Lk K F H v d) (q : Sub F H) (t : truth d = some b) : TruV K v H b := by
  cases d with
  | none => cases t; rw [h.non]; exact rfl
  | bool b => cases t; rw [h.bl]; exact rfl
  | int i => cases t; rw [h.int]; exact rfl
  | str x =>
    simp only [truth] at t
    split at t
    · rename_i hz; cases t; rw [h.str]; exact ⟨hz, rfl⟩
    · cases t
  | list ds =>
    cases t
    obtain ⟨a, xs, e, h1, r⟩ := h.lst q
    subst e
    exact .inl ⟨xs, .inl h1, by rw [r.isEmpty]⟩
  | tuple ds =>
    cases t
    obtain ⟨a, xs, e, h1, r, _⟩ := h.tup q
    subst e
    exact .inr (.inl ⟨xs, h1, by rw [r.isEmpty]⟩)
  | dict ds => cases t
def KTru (P : PoB) (x : R) (r : Rho) : Prop := onO (look r x) fun d => onO (truth d) fun b => P b r
theorem KTru.ex {P : PoB} {x : R} {r : Rho} (h : KTru P x r) : ∃ d b, look r x = some d ∧ truth d = some b ∧ P b r := by
  obtain ⟨d, e1, h1⟩ := onO.ex h
  obtain ⟨b, e2, h2⟩ := onO.ex h1
  exact ⟨d, b, e1, e2, h2⟩
def mTru (m : ME) : MT := fun r P => m r fun x r' => KTru P x.tmp r'
section
variable {X : Cx} {a b c : Expr} {ma mb mc : ME} {pos : Pos}
theorem dt_of (h : DE X a ma) (he : ∀ whole, isTrue a X.env whole = (do let v ← whole; standAt a.pos; holding [v] (truthy v)) := by intro _; rfl) : DT X a (mTru ma) := fun e =>
  PT.imp (pt_truth (h.tmp e) he) fun s H Q ⟨F, r, k, P, hm, hP⟩ => ⟨F, r, k, fun x r' => KTru P x r', hm, fun x r' v F' H' hx k' q' t => by
    obtain ⟨d, b, e1, e2, hp⟩ := KTru.ex hx
    exact ⟨b, (t.look k' e1).tru k'.sub e2, hP b r' F' H' hp k' q'⟩⟩
/-- a bool's value -/
def blOf : R → Option Bool
  | .val (.bool b) => some b
  | _ => none
def mTest (m : ME) : MT := fun r P => m r fun x r' => onO (blOf x) fun b => P b r'
theorem blOf_of {x : R} {b : Bool} (h : blOf x = some b) : x = .val (.bool b) := by
  unfold blOf at h
  split at h
  · cases h; rfl
  · cases h
theorem tTest_of {K : Fg} {e : En} {m : ME} {t : TE} (i : ∀ s H Q, T K e m s H Q → t s H Q) {s : L2.St} {H : Hp} {Q : Bool → Hp → Prop} (h : TB K e (mTest m) s H Q) : tTest t s H Q := by
  obtain ⟨F, r, k, P, hm, hP⟩ := h
  refine i s H _ ⟨F, r, k, _, hm, fun x r' v F' H' hx k' q' t => ?_⟩
  obtain ⟨b, e1, hp⟩ := onO.ex hx
  have := blOf_of e1
  subst this
  cases t with | val a => cases a; exact ⟨b, rfl, hP b r' F' H' hp k' q'⟩
theorem dt_cmp {op : CmpOp} {o : OpK} (ho : OpD X (compareOp op) o.f) (ha : DE X a ma) (hb : DE X b mb) (hm : behindInMarks op b = false) : DT X (.Compare a [op] [b] pos) (mTest (mOp o ma mb)) := fun e => by
  obtain ⟨rr, hr, hq⟩ := ho
  exact PT.imp (pt_cmpR hr (ha.tmp e) (hb.tmp e) hm) fun s H Q h => tTest_of (fun s H Q h => mOp_read hq h) h
variable {ta tb : MT} {rest : List Expr}
def bAnd (t u : MT) : MT := fun r P => t r fun b r1 => brK b (u r1 P) (P false r1)
def bOr (t u : MT) : MT := fun r P => t r fun b r1 => brK b (P true r1) (u r1 P)
def bNot (t : MT) : MT := fun r P => t r fun b r1 => P (!b) r1
theorem dw_and1 (ha : DT X a ta) : DW X (.BoolOp .And [a] pos) ta := fun e => pw_and1 (ha e)
theorem dw_or1 (ha : DT X a ta) : DW X (.BoolOp .Or [a] pos) ta := fun e => pw_or1 (ha e)
theorem dw_and (ha : DT X a ta) (hb : DW X (.BoolOp .And (b :: rest) pos) tb) : DW X (.BoolOp .And (a :: b :: rest) pos) (bAnd ta tb) := fun e =>
  PW.imp (pw_and (ha e) (hb e)) fun s H Q ⟨F, r, k, P, hm, hP⟩ => ⟨F, r, k, _, hm, fun c r1 F1 H1 hc k1 q1 => by
    cases c with
    | true => rw [if_pos rfl]; exact ⟨F1, r1, k1, P, hc, fun b r' F' H' hp k' q' => hP b r' F' H' hp k' (q1.trans q')⟩
    | false => rw [if_neg Bool.false_ne_true]; exact hP _ r1 F1 H1 hc k1 q1⟩
theorem dw_or (ha : DT X a ta) (hb : DW X (.BoolOp .Or (b :: rest) pos) tb) : DW X (.BoolOp .Or (a :: b :: rest) pos) (bOr ta tb) := fun e =>
  PW.imp (pw_or (ha e) (hb e)) fun s H Q ⟨F, r, k, P, hm, hP⟩ => ⟨F, r, k, _, hm, fun c r1 F1 H1 hc k1 q1 => by
    cases c with
    | true => rw [if_pos rfl]; exact hP _ r1 F1 H1 hc k1 q1
    | false => rw [if_neg Bool.false_ne_true]; exact ⟨F1, r1, k1, P, hc, fun b r' F' H' hp k' q' => hP b r' F' H' hp k' (q1.trans q')⟩⟩
theorem dt_w (h : DW X a ta) : DT X a ta := fun e => (h e).pt
theorem dt_not (h : DT X a ta) : DT X (.UnaryOp .Not a pos) (bNot ta) := fun e =>
  PT.imp (pt_not (h e)) fun s H Q ⟨F, r, k, P, hm, hP⟩ => ⟨F, r, k, _, hm, fun b r' F' H' hp k' q' => hP (!b) r' F' H' hp k' q'⟩
theorem RT.rr {K : Fg} {e : En} {F : Hp} {r : Rho} {s : L2.St} {H : Hp} {x : R} {v : V} {d : D} (h : RT K F s x v) (k : Ok K e F r s H) (q : DL.look r x = some d) : RR K e F r s H x v := by
  cases h with
  | val a => exact .val a
  | @bor i v a =>
    simp only [DL.look] at q
    split at q
    · rename_i z; exact .bor a ⟨_, _, z⟩
    · cases q
  | ob a => cases q
  | adr => cases q
/-- an int -/
def inOf : R → Option Int
  | .val (.int i) => some i
  | _ => none
theorem inOf_of {x : R} {i : Int} (h : inOf x = some i) : x = .val (.int i) := by
  unfold inOf at h
  split at h
  · cases h; rfl
  · cases h
def mNeg (ma : ME) : ME := fun r P => ma r fun x r1 => onO (inOf x) fun i => P (.val (.int (-i))) r1
theorem de_neg (ha : DE X a ma) : DE X (.UnaryOp .USub a pos) (mNeg ma) := fun e =>
  PE.imp (pe_un un_neg (ha e)) fun s H Q ⟨F, r, k, P, hm, hP⟩ => ⟨F, r, k, _, hm, fun x r1 v F1 H1 hx k1 q1 t1 => by
    obtain ⟨i, ei, hc⟩ := onO.ex hx
    have e1 := inOf_of ei
    subst e1
    cases t1 with | val a => cases a; exact ⟨i, rfl, hP _ r1 _ F1 H1 hc k1 q1 (.val (.int _))⟩⟩
end
end DL
namespace DL
open PySem L2 PyProof.Rows
abbrev PoA := List R → Rho → Prop
abbrev MA := Rho → PoA → Prop
inductive RTs (K : Fg) (F : Hp) (s : L2.St) : List R → List V → Prop
  | nil : RTs K F s [] []
  | cons {x : R} {v : V} {xs : List R} {vs : List V} : RT K F s x v → RTs K F s xs vs → RTs K F s (x :: xs) (v :: vs)
theorem RTs.mono {K : Fg} {F F' : Hp} {s : L2.St} {xs : List R} {vs : List V} (h : RTs K F s xs vs) (q : Sub F F') : RTs K F' s xs vs := by
  induction h with
  | nil => exact .nil
  | cons a _ ih => exact .cons (a.mono q) ih
def TAl (K : Fg) (e : En) (m : MA) : TA := fun s H Q => ∃ F r, Ok K e F r s H ∧ ∃ P : PoA, m r P ∧ ∀ xs r' vs F' H', P xs r' → Ok K e F' r' s H' → Sub F F' → RTs K F' s xs vs → Q vs H'
def DA (X : Cx) (as : List Expr) (m : MA) : Prop := ∀ e, PA X as (TAl X.K e m)
theorem PA.imp {X : Cx} {a : List Expr} {t u : TA} (h : PA X a t) (i : ∀ s H Q, u s H Q → t s H Q) : PA X a u := ⟨fun pos pins s σ H Q I q => h.run pos pins s σ H Q I (i _ _ _ q)⟩
def aNil : MA := fun r P => P [] r
def aCons (m : ME) (ms : MA) : MA := fun r P => m r fun x r1 => ms r1 fun xs r2 => P (x.tmp :: xs) r2
def looks (r : Rho) : List R → Option (List D)
  | [] => some []
  | x :: xs => match look r x, looks r xs with
    | some d, some ds => some (d :: ds)
    | _, _ => none
/-- values that look like data -/
inductive LkA (K : Fg) (F H : Hp) : List V → List D → Prop
  | nil : LkA K F H [] []
  | cons {v : V} {d : D} {vs : List V} {ds : List D} : Lk K F H v d → LkA K F H vs ds → LkA K F H (v :: vs) (d :: ds)
theorem RTs.looks {K : Fg} {e : En} {F : Hp} {r : Rho} {s : L2.St} {H : Hp} {xs : List R} {vs : List V} {ds : List D} (h : RTs K F s xs vs) (k : Ok K e F r s H) (q : DL.looks r xs = some ds) : LkA K F H vs ds := by
  induction h generalizing ds with
  | nil => cases q; exact .nil
  | cons a _ ih =>
    simp only [DL.looks] at q
    split at q
    · rename_i e1 e2; cases q; exact .cons (a.look k e1) (ih e2)
    · cases q
section
variable {X : Cx} {a b c : Expr} {ma mb mc : ME} {pos : Pos} {es : List Expr} {ms : MA}
theorem da_nil : DA X [] aNil := fun e => PA.imp pa_nil fun s H Q ⟨F, r, k, P, hm, hP⟩ => hP _ r _ F H hm k (Sub.refl F) .nil
theorem da_cons (ha : DE X a ma) (hr : DA X es ms) (hs : starEach (a :: es) X.env = (false, eval a X.env) :: starEach es X.env := by rfl) : DA X (a :: es) (aCons ma ms) := fun e =>
  PA.imp (pa_cons (ha.tmp e) (hr e) hs) fun s H Q ⟨F, r, k, P, hm, hP⟩ => ⟨F, r, k, fun x r1 => ms r1 fun xs r2 => P (x :: xs) r2, hm, fun x r1 v F1 H1 hx k1 q1 t1 =>
    ⟨F1, r1, k1, _, hx, fun xs r2 vs F2 H2 hxs k2 q2 t2 => hP _ r2 _ F2 H2 hxs k2 (q1.trans q2) (.cons (t1.mono q2) t2)⟩⟩
/-- x is held: its datum, the cells behind it -/
def hold (r : Rho) : R → Option (D × Rho)
  | .val d => some (d, r)
  | .own m => some (m.toD, r)
  | .bor i => match r[i]? with
    | some (some (.box false m)) => some (m.toD, r.set i (some (.val m.toD)))
    | _ => none
  | .ob _ => none
  | .adr _ _ => none
def holds (r : Rho) : List R → Option (List D × Rho)
  | [] => some ([], r)
  | x :: xs => match hold r x with
    | some (d, r1) => match holds r1 xs with
      | some (ds, r2) => some (d :: ds, r2)
      | none => none
    | none => none
end
section
variable {K : Fg} {e : En} {F : Hp} {r : Rho} {s : L2.St} {H : Hp}
theorem get_set {α : Type} {l : List α} {i j : Nat} {x y : α} (h : (l.set i x)[j]? = some y) : (i = j ∧ x = y) ∨ (i ≠ j ∧ l[j]? = some y) := by
  by_cases q : i = j
  · subst q
    have hl : i < l.length := by
      have := (List.getElem?_eq_some_iff.mp h).1
      simpa using this
    rw [List.getElem?_set_self hl] at h
    exact .inl ⟨rfl, Option.some.inj h⟩
  · rw [List.getElem?_set_ne q] at h
    exact .inr ⟨q, h⟩
/-- a box becomes a datum -/
theorem Ok.freezeBox {i : Nat} {m : MB} (k : Ok K e F r s H) (h : r[i]? = some (some (Ce.box false m))) : ∃ F' v, Ok K e F' (r.set i (some (.val m.toD))) s H ∧ Sub F F' ∧ s[i]? = some (some v) ∧ Rp K F' v m.toD := by
  obtain ⟨p, o, h1, h2, h3, h4, h5, h6⟩ := k.box i false m h
  have rp : Rp K (upd F p o) (.ref p) m.toD := h3.rp (Sub.new h4) upd_same
  have nb : ∀ (j : Nat) b m', r[j]? = some (some (Ce.box b m')) → s[j]? = some (some (V.ref p)) → j = i := fun j b m' z y => k.sep j i p b m' false m z h y h1
  refine ⟨upd F p o, .ref p, ⟨by rw [List.length_set]; exact k.len, ?_, ?_, k.prot, ?_, k.dom, ?_, ?_, ?_, ?_, ?_, ?_, ?_⟩, Sub.new h4, h1, rp⟩
  · intro a u q
    by_cases z : a = p
    · subst z; rw [upd_same] at q; cases q; exact h2
    · rw [upd_ne z] at q; exact k.sub a u q
  · exact k.f0.trans (Sub.new h4)
  · intro a u q
    by_cases z : a = p
    · subst z; exact .inr (.inl h5)
    · rw [upd_ne z] at q; exact k.new a u q
  · intro j d z
    rcases get_set z with ⟨e1, e2⟩ | ⟨e1, e2⟩
    · cases e2; subst e1; exact ⟨_, h1, rp⟩
    · obtain ⟨v, g1, g2⟩ := k.slot j d e2
      exact ⟨v, g1, g2.mono (Sub.new h4)⟩
  · intro j b m' z
    rcases get_set z with ⟨e1, e2⟩ | ⟨e1, e2⟩
    · cases e2
    · obtain ⟨q, u, g1, g2, g3, g4, g5, g6⟩ := k.box j b m' e2
      have ne : q ≠ p := fun y => by subst y; exact e1 (nb j b m' e2 g1).symm
      exact ⟨q, u, g1, g2, g3.mono (Sub.new h4), by rw [upd_ne ne]; exact g4, g5, g6⟩
  · intro j ns z
    rcases get_set z with ⟨e1, e2⟩ | ⟨e1, e2⟩
    · cases e2
    · obtain ⟨a, g1, g2⟩ := k.ob j ns e2
      exact ⟨a, g1, g2.mono (Sub.new h4)⟩
  · intro j1 j2 q b m' b' m'' z1 z2
    rcases get_set z1 with ⟨_, e2⟩ | ⟨_, e2⟩
    · cases e2
    · rcases get_set z2 with ⟨_, e4⟩ | ⟨_, e4⟩
      · cases e4
      · exact k.sep j1 j2 q b m' b' m'' e2 e4
  · intro j n a z
    rcases get_set z with ⟨e1, e2⟩ | ⟨e1, e2⟩
    · cases e2
    · exact k.adr j n a e2
  · intro j G z
    rcases get_set z with ⟨e1, e2⟩ | ⟨e1, e2⟩
    · cases e2
    · obtain ⟨g1, g2, g3⟩ := k.gh j G e2
      refine ⟨g1.move (Sub.new h4) (fun q _ u w => w) (fun q w => ?_) fun q w => ⟨(g1.fr q w).2.1, (g1.fr q w).2.2.1⟩, fun j2 b' m' q z' => ?_, fun j2 G' z' => ?_⟩
      · rw [upd_ne (fun y => by subst y; exact g2 i false m q h h1 w)]
        exact (g1.fr q w).1
      · rcases get_set z' with ⟨_, e4⟩ | ⟨_, e4⟩
        · cases e4
        · exact g2 j2 b' m' q e4
      · rcases get_set z' with ⟨_, e4⟩ | ⟨_, e4⟩
        · cases e4
        · exact g3 j2 G' e4
  · exact k.gpF
/-- what was looked at before a freezing is what it was -/
theorem RT.hold {x : R} {v : V} {d : D} {r1 : Rho} (t : RT K F s x v) (k : Ok K e F r s H) (q : DL.hold r x = some (d, r1)) : ∃ F', Ok K e F' r1 s H ∧ Sub F F' ∧ Rp K F' v d := by
  cases t with
  | val a => cases q; exact ⟨F, k, Sub.refl F, a⟩
  | @bor i v a =>
    simp only [DL.hold] at q
    split at q
    · rename_i z; cases q
      obtain ⟨F', v', k', s', g1, g2⟩ := k.freezeBox z
      rw [a] at g1; cases g1
      exact ⟨F', k', s', g2⟩
    · cases q
  | ob _ => cases q
  | adr => cases q
theorem RTs.holds {xs : List R} : ∀ {F : Hp} {r : Rho} {vs : List V} {ds : List D} {r1 : Rho}, RTs K F s xs vs → Ok K e F r s H → DL.holds r xs = some (ds, r1) → ∃ F', Ok K e F' r1 s H ∧ Sub F F' ∧ RpA K F' vs ds := by
  induction xs with
  | nil => intro F r vs ds r1 t k q; cases t; cases q; exact ⟨F, k, Sub.refl F, .nil⟩
  | cons x xs ih =>
    intro F r vs ds r1 t k q
    cases t with
    | cons a t =>
      simp only [DL.holds] at q
      split at q
      · rename_i e1
        split at q
        · rename_i e2; cases q
          obtain ⟨F1, k1, s1, p1⟩ := a.hold k e1
          obtain ⟨F2, k2, s2, p2⟩ := ih (t.mono s1) k1 e2
          exact ⟨F2, k2, s1.trans s2, .cons (p1.mono s2) p2⟩
        · cases q
      · cases q
end
section
variable {X : Cx} {a b c : Expr} {ma mb mc : ME} {pos : Pos} {es : List Expr} {ms : MA}
def mTup (ms : MA) : ME := fun r P => ms r fun xs r1 => onP (holds r1 xs) fun qa qb => Rq (qa.length ≤ sizeLine) (P (.val (.tuple qa)) qb)
def mLst (ms : MA) : ME := fun r P => ms r fun xs r1 => onP (holds r1 xs) fun qa qb => Rq (qa.length ≤ sizeLine) (P (.own (.L qa)) qb)
theorem de_tup {x1} (h : DA X es ms) : DE X (.Tuple es x1 pos) (mTup ms) := fun e =>
  PE.imp (pe_tupZ (h e)) fun s H Q ⟨F, r, k, P, hm, hP⟩ => ⟨F, r, k, _, hm, fun xs r1 vs F1 H1 hx k1 q1 t1 => by
    obtain ⟨ds, r2, hh, hq⟩ := onP.ex hx
    have hz := Rq.c hq
    have hp := Rq.a hq
    obtain ⟨F2, k2, q2, p2⟩ := t1.holds k1 hh
    exact ⟨by rw [p2.length]; exact hz, fun p o np nd => hP _ r2 _ _ _ hp (k2.lay np) ((q1.trans q2).trans (Sub.new (k2.free np).1)) (.newT k2 np nd p2)⟩⟩
theorem de_lst (h : DA X es ms) : DE X (.List es pos) (mLst ms) := fun e =>
  PE.imp (pe_lst (h e)) fun s H Q ⟨F, r, k, P, hm, hP⟩ => ⟨F, r, k, _, hm, fun xs r1 vs F1 H1 hx k1 q1 t1 => by
    obtain ⟨ds, r2, hh, hq⟩ := onP.ex hx
    have hz := Rq.c hq
    have hp := Rq.a hq
    obtain ⟨F2, k2, q2, p2⟩ := t1.holds k1 hh
    exact ⟨by rw [p2.length]; exact hz, fun p np => hP _ r2 _ _ _ hp (k2.alloc np) (q1.trans q2) (.newL k2 np p2)⟩⟩
def fIx : F2
  | .list ds, .int i => match atI ds i with
    | some d => some (.val d)
    | none => none
  | .tuple ds, .int i => match atI ds i with
    | some d => some (.val d)
    | none => none
  | .str x, .int i => if x.length ≤ sizeLine then match atI x.cps.toList i with
    | some c => some (.val (.str ⟨#[c]⟩))
    | none => none
    else none
  | _, _ => none
theorem RpA.at {K : Fg} {F : Hp} {vs : List V} {ds : List D} {i : Int} {d : D} (h : RpA K F vs ds) (q : atI ds i = some d) : ∃ v, atI vs i = some v ∧ Rp K F v d := by
  unfold atI at q ⊢
  rw [h.length]
  cases z : ixN ds.length i with
  | none => rw [z] at q; cases q
  | some j =>
    rw [z] at q
    obtain ⟨v, e1, e2⟩ := h.getD (show ds[j]? = some d from q)
    exact ⟨v, e1, e2⟩
abbrev MO' := Rho → (Option Int → Rho → Prop) → Prop
def TOp (K : Fg) (e : En) (m : MO') : TO := fun s H Q => ∃ F r, Ok K e F r s H ∧ ∃ P : Option Int → Rho → Prop, m r P ∧ ∀ o r' F' H', P o r' → Ok K e F' r' s H' → Sub F F' → Q o H'
def DO (X : Cx) (a : Option Expr) (m : MO') : Prop := ∀ e, PO X a (TOp X.K e m)
theorem PO.imp {X : Cx} {a : Option Expr} {t u : TO} (h : PO X a t) (i : ∀ s H Q, u s H Q → t s H Q) : PO X a u := ⟨fun pins s σ H Q I q => h.run pins s σ H Q I (i _ _ _ q)⟩
def oNone : MO' := fun r P => P none r
def oSome (m : ME) : MO' := fun r P => m r fun x r1 => onO (inOf x) fun i => P (some i) r1
theorem do_none : DO X none oNone := fun e => PO.imp po_none fun s H Q ⟨F, r, k, P, hm, hP⟩ => hP _ r F H hm k (Sub.refl F)
theorem do_some (ha : DE X a ma) : DO X (some a) (oSome ma) := fun e => PO.imp (po_some (ha e)) fun s H Q ⟨F, r, k, P, hm, hP⟩ => ⟨F, r, k, _, hm, fun x r1 v F1 H1 hx k1 q1 t1 => by
  obtain ⟨i, ei, hc⟩ := onO.ex hx
  have e1 := inOf_of ei
  subst e1
  cases t1 with | val a => cases a; exact ⟨i, rfl, hP _ r1 F1 H1 hc k1 q1⟩⟩
def cutD (xs : List D) (lo hi : Option Int) : List D := (xs.drop (HT.sIx xs.length 0 lo)).take (HT.sIx xs.length xs.length hi - HT.sIx xs.length 0 lo)
theorem RpA.cut {K : Fg} {F : Hp} {vs : List V} {ds : List D} (h : RpA K F vs ds) (lo hi : Option Int) : RpA K F (cutV vs lo hi) (cutD ds lo hi) := by
  unfold cutV cutD
  rw [h.length]
  exact (h.drop _).take _
def fSl (d : D) (lo hi : Option Int) : Option R := match d with
  | .list ds => some (.own (.L (cutD ds lo hi)))
  | .tuple ds => some (.val (.tuple (cutD ds lo hi)))
  | .str x => if x.length ≤ sizeLine then some (.val (.str (cutS x lo hi))) else none
  | _ => none
def kSl (d : D) (lo hi : Option Int) (K : R → Prop) : Prop := match d with
  | .list ds => K (.own (.L (cutD ds lo hi)))
  | .tuple ds => K (.val (.tuple (cutD ds lo hi)))
  | .str x => Rq (x.length ≤ sizeLine) (K (.val (.str (cutS x lo hi))))
  | _ => False
theorem kSl.ex {d : D} {lo hi : Option Int} {K : R → Prop} (h : kSl d lo hi K) : ∃ z, fSl d lo hi = some z ∧ K z := by
  cases d <;> first
    | exact h.elim
    | exact ⟨_, rfl, h⟩
    | exact ⟨_, rq_if h, Rq.a h⟩
def mSl (ma : ME) (ml mh : MO') : ME := fun r P => ma r fun x r1 => ml r1 fun l r2 => mh r2 fun h r3 => onO (look r3 x.tmp) fun d => kSl d l h fun z => P z r3
theorem cutD_whole {ds : List D} {lo hi : Option Int} (h : HT.sIx ds.length 0 lo = 0 ∧ HT.sIx ds.length ds.length hi = ds.length) : cutD ds lo hi = ds := by
  unfold cutD
  rw [h.1, h.2, List.drop_zero, Nat.sub_zero, List.take_length]
variable {lo hi : Option Expr} {ml mh : MO'} {p2 : Pos}
theorem de_slice (ha : DE X a ma) (hl : DO X lo ml) (hh : DO X hi mh) : DE X (.Subscript a (.Slice lo hi none p2) pos) (mSl ma ml mh) := fun e =>
  PE.imp (pe_slice (SlR.or sl_list (SlR.or sl_tupZ sl_str)) (ha.tmp e) (hl e) (hh e)) fun s H Q ⟨F, r, k, P, hm, hP⟩ => ⟨F, r, k, fun x r1 => ml r1 fun l r2 => mh r2 fun h r3 => onO (look r3 x) fun d => kSl d l h fun z => P z r3, hm, fun x r1 v F1 H1 hx k1 q1 t1 =>
    ⟨F1, r1, k1, _, hx, fun l r2 F2 H2 hx2 k2 q2 => ⟨F2, r2, k2, _, hx2, fun h r3 F3 H3 hx3 k3 q3 => by
      obtain ⟨d, e1, hx4⟩ := onO.ex hx3
      obtain ⟨z, ef, hp⟩ := kSl.ex hx4
      have lk := ((t1.mono q2).mono q3).look k3 e1
      have q := (q1.trans q2).trans q3
      unfold fSl at ef
      split at ef
      · cases ef
        obtain ⟨p, xs, g1, g2, g3⟩ := lk.lst k3.sub
        exact .inl ⟨p, xs, g1, .inl g2, fun p np => hP _ r3 _ F3 _ hp (k3.alloc np) q (.newL k3 np (g3.cut l h))⟩
      · cases ef
        obtain ⟨p, xs, g1, g2, g3, g4⟩ := lk.tup k3.sub
        refine .inr (.inl ⟨p, xs, g1, g2, fun hw => ?_, fun _ p o np nd => hP _ r3 _ _ _ hp (k3.lay np) (q.trans (Sub.new (k3.free np).1)) (.newT k3 np nd (g3.cut l h))⟩)
        rw [g3.length] at hw
        rw [cutD_whole hw] at hp
        subst g1
        exact hP _ r3 _ F3 H3 hp k3 q (.val g4)
      · split at ef
        · rename_i hz; cases ef
          exact .inr (.inr ⟨_, lk.str, hz, hP _ r3 _ F3 H3 hp k3 q (.val (.str _))⟩)
        · cases ef
      · cases ef⟩⟩⟩
abbrev FA := List D → Option R
def CallD (X : Cx) (g : Value) (f : FA) : Prop := ∃ rr : List V → Hp → VK → Prop, CallR X g rr ∧ ∀ (e : En) (F : Hp) (r : Rho) (s : L2.St) (H : Hp) (vs : List V) (ds : List D) (z : R) (Q : VK),
  Ok X.K e F r s H → LkA X.K F H vs ds → f ds = some z → (∀ v F' H', Ok X.K e F' r s H' → Sub F F' → RR X.K e F' r s H' z v → Q v H') → rr vs H Q
theorem CallR.or {g : Value} {a b : List V → Hp → VK → Prop} (h : CallR X g a) (h' : CallR X g b) : CallR X g (fun x H Q => a x H Q ∨ b x H Q) := fun pins s σ H x v Q I rx q =>
  q.elim (h pins s σ H x v Q I rx) (h' pins s σ H x v Q I rx)
/-- a built-in and what it does, told so that it runs -/
structure CaK where
  f : FA
  k : List D → (R → Prop) → Prop
  ok : ∀ ds K, k ds K → ∃ z, f ds = some z ∧ K z
def mCall (o : CaK) (ms : MA) : ME := fun r P => ms r fun xs r1 => onO (looks r1 xs) fun ds => o.k ds fun z => P z r1
theorem call_read {e : En} {o : CaK} {rr : List V → Hp → VK → Prop} (hq : ∀ (e : En) (F : Hp) (r : Rho) (s : L2.St) (H : Hp) (vs : List V) (ds : List D) (z : R) (Q : VK),
    Ok X.K e F r s H → LkA X.K F H vs ds → o.f ds = some z → (∀ v F' H', Ok X.K e F' r s H' → Sub F F' → RR X.K e F' r s H' z v → Q v H') → rr vs H Q)
    {s : L2.St} {H : Hp} {Q : VK} (h : T X.K e (mCall o ms) s H Q) : tCB rr (TAl X.K e ms) s H Q := by
  obtain ⟨F, r, k, P, hm, hP⟩ := h
  refine ⟨F, r, k, _, hm, fun xs r1 vs F1 H1 hx k1 q1 t1 => ?_⟩
  obtain ⟨ds, e1, hx2⟩ := onO.ex hx
  obtain ⟨z, ef, hp⟩ := o.ok _ _ hx2
  exact hq e F1 r1 s H1 vs ds z Q k1 (t1.looks k1 e1) ef fun v F' H' k' q' hr => hP z r1 v F' H' hp k' (q1.trans q') hr
variable {x : Str} {p : Pos} {id : String}
theorem de_callB {o : CaK} (hc : CallD X (.builtin id) o.f) (hg : Gl X x) (hm : X.mg x = none) (hv : bootBuiltins x = some (.builtin id)) (ha : DA X (a :: es) ms) (hn : x ≠ "__name__" := by decide) (hdb : (x == ("__debug__" : Str)) = false := by decide)
    (he : starEach (a :: es) X.env = (false, eval a X.env) :: starEach es X.env := by rfl) (hpl : (backTo pos (starEach es X.env)).any (·.1) = false := by rfl) : DE X (.Call (.Name x p) (a :: es) [] pos) (mCall o ms) := fun e => by
  obtain ⟨rr, hr, hq⟩ := hc
  exact PE.imp (pe_callB hr hg hm hv (ha e) hn hdb he hpl) fun s H Q h => call_read hq h
theorem de_callTy {o : CaK} {T : String} (hc : CallD X (.type T) o.f) (hg : Gl X x) (hm : X.mg x = none) (hv : bootBuiltins x = some (.type T)) (ha : DA X (a :: es) ms) (hn : x ≠ "__name__" := by decide) (hdb : (x == ("__debug__" : Str)) = false := by decide)
    (he : starEach (a :: es) X.env = (false, eval a X.env) :: starEach es X.env := by rfl) (hpl : (backTo pos (starEach es X.env)).any (·.1) = false := by rfl) : DE X (.Call (.Name x p) (a :: es) [] pos) (mCall o ms) := fun e => by
  obtain ⟨rr, hr, hq⟩ := hc
  exact PE.imp (pe_callTy hr hg hm hv (ha e) hn hdb he hpl) fun s H Q h => call_read hq h
end
end DL
namespace DL
open PySem L2 PyProof.Rows
section
variable {X : Cx}
theorem LkA.one {K : Fg} {F H : Hp} {vs : List V} {d : D} (h : LkA K F H vs [d]) : ∃ v, vs = [v] ∧ Lk K F H v d := by
  cases h with | cons a b => cases b; exact ⟨_, rfl, a⟩
theorem LkA.two {K : Fg} {F H : Hp} {vs : List V} {d d' : D} (h : LkA K F H vs [d, d']) : ∃ v v', vs = [v, v'] ∧ Lk K F H v d ∧ Lk K F H v' d' := by
  cases h with | cons a b => obtain ⟨v', rfl, q⟩ := b.one; exact ⟨_, _, rfl, a, q⟩
def fLen : FA
  | [.str x] => if x.length ≤ sizeLine then some (.val (.int x.length)) else none
  | [.list ds] => some (.val (.int ds.length))
  | [.tuple ds] => some (.val (.int ds.length))
  | _ => none
theorem calld_len : CallD X (.builtin "len") fLen := by
  refine ⟨_, call_len, fun e F r s H vs ds z Q k l ef w => ?_⟩
  unfold fLen at ef
  split at ef
  · split at ef
    · rename_i hz; cases ef
      obtain ⟨v, rfl, lk⟩ := l.one
      rw [lk.str]
      exact ⟨_, _, rfl, ⟨hz, rfl⟩, w _ F H k (Sub.refl F) (.val (.int _))⟩
    · cases ef
  · cases ef
    obtain ⟨v, rfl, lk⟩ := l.one
    obtain ⟨p, xs, rfl, g2, g3⟩ := lk.lst k.sub
    exact ⟨_, _, rfl, .inl ⟨xs, .inl g2, g3.length.symm⟩, w _ F H k (Sub.refl F) (.val (.int _))⟩
  · cases ef
    obtain ⟨v, rfl, lk⟩ := l.one
    obtain ⟨p, xs, rfl, g2, g3, _⟩ := lk.tup k.sub
    exact ⟨_, _, rfl, .inr ⟨xs, g2, g3.length.symm⟩, w _ F H k (Sub.refl F) (.val (.int _))⟩
  · cases ef
def fTuple : FA
  | [.list ds] => some (.val (.tuple ds))
  | [.tuple ds] => some (.val (.tuple ds))
  | _ => none
theorem calld_tuple : CallD X (.type "tuple") fTuple := by
  refine ⟨_, call_tupZ, fun e F r s H vs ds z Q k l ef w => ?_⟩
  unfold fTuple at ef
  split at ef
  · cases ef
    obtain ⟨v, rfl, lk⟩ := l.one
    obtain ⟨p, xs, rfl, g2, g3⟩ := lk.lst k.sub
    exact .inl ⟨p, xs, rfl, .inl g2, fun q o nq nd => w _ _ _ (k.lay nq) (Sub.new (k.free nq).1) (.newT k nq nd g3)⟩
  · cases ef
    obtain ⟨v, rfl, lk⟩ := l.one
    obtain ⟨p, xs, rfl, g2, g3, g4⟩ := lk.tup k.sub
    exact .inr ⟨p, xs, rfl, g2, w _ F H k (Sub.refl F) (.val g4)⟩
  · cases ef
def intsOf : List D → Option (List Int)
  | [] => some []
  | .int b :: ds => (intsOf ds).map (b :: ·)
  | _ => none
theorem RpA.ints {K : Fg} {F : Hp} : ∀ {ds : List D} {vs : List V} {bs : List Int}, RpA K F vs ds → intsOf ds = some bs → vs = bs.map V.int
  | [], _, _, h, q => by cases h; cases q; rfl
  | .int b :: ds, _, _, h, q => by
    cases h with | cons a r =>
    cases a
    simp only [intsOf, Option.map_eq_some_iff] at q
    obtain ⟨bs', q1, q2⟩ := q
    subst q2
    rw [RpA.ints r q1, List.map_cons]
  | .none :: _, _, _, _, q => by cases q
  | .bool _ :: _, _, _, _, q => by cases q
  | .str _ :: _, _, _, _, q => by cases q
  | .list _ :: _, _, _, _, q => by cases q
  | .tuple _ :: _, _, _, _, q => by cases q
  | .dict _ :: _, _, _, _, q => by cases q
def strsOf : List D → Option (List Str)
  | [] => some []
  | .str b :: ds => (strsOf ds).map (b :: ·)
  | _ => none
theorem RpA.strs {K : Fg} {F : Hp} : ∀ {ds : List D} {vs : List V} {bs : List Str}, RpA K F vs ds → strsOf ds = some bs → vs = bs.map V.str
  | [], _, _, h, q => by cases h; cases q; rfl
  | .str b :: ds, _, _, h, q => by
    cases h with | cons a r =>
    cases a
    simp only [strsOf, Option.map_eq_some_iff] at q
    obtain ⟨bs', q1, q2⟩ := q
    subst q2
    rw [RpA.strs r q1, List.map_cons]
  | .none :: _, _, _, _, q => by cases q
  | .bool _ :: _, _, _, _, q => by cases q
  | .int _ :: _, _, _, _, q => by cases q
  | .list _ :: _, _, _, _, q => by cases q
  | .tuple _ :: _, _, _, _, q => by cases q
  | .dict _ :: _, _, _, _, q => by cases q
def fAbs : FA
  | [.int i] => some (.val (.int (if i < 0 then -i else i)))
  | _ => none
theorem calld_abs : CallD X (.builtin "abs") fAbs := by
  refine ⟨_, call_abs, fun e F r s H vs ds z Q k l ef w => ?_⟩
  unfold fAbs at ef
  split at ef
  · cases ef
    obtain ⟨v, rfl, lk⟩ := l.one
    rw [lk.int]
    exact ⟨_, rfl, w _ F H k (Sub.refl F) (.val (.int _))⟩
  · cases ef
def fInt : FA
  | [.int i] => some (.val (.int i))
  | [.bool b] => some (.val (.int (if b then 1 else 0)))
  | _ => none
theorem calld_int : CallD X (.type "int") fInt := by
  refine ⟨_, call_int1, fun e F r s H vs ds z Q k l ef w => ?_⟩
  unfold fInt at ef
  split at ef
  · cases ef
    obtain ⟨v, rfl, lk⟩ := l.one
    rw [lk.int]
    exact .inl ⟨_, rfl, w _ F H k (Sub.refl F) (.val (.int _))⟩
  · cases ef
    obtain ⟨v, rfl, lk⟩ := l.one
    rw [lk.bl]
    exact .inr ⟨_, rfl, w _ F H k (Sub.refl F) (.val (.int _))⟩
  · cases ef
end
def kLen : List D → (R → Prop) → Prop
  | [.str x], K => Rq (x.length ≤ sizeLine) (K (.val (.int x.length)))
  | [.list ds], K => K (.val (.int ds.length))
  | [.tuple ds], K => K (.val (.int ds.length))
  | _, _ => False
def cLen : CaK := ⟨fLen, kLen, fun ds K h => by
  unfold kLen at h
  split at h
  · exact ⟨_, rq_if h, Rq.a h⟩
  · exact ⟨_, rfl, h⟩
  · exact ⟨_, rfl, h⟩
  · exact h.elim⟩
def kTuple : List D → (R → Prop) → Prop
  | [.list ds], K => K (.val (.tuple ds))
  | [.tuple ds], K => K (.val (.tuple ds))
  | _, _ => False
def cTuple : CaK := ⟨fTuple, kTuple, fun ds K h => by
  unfold kTuple at h
  split at h
  · exact ⟨_, rfl, h⟩
  · exact ⟨_, rfl, h⟩
  · exact h.elim⟩
def kAbs : List D → (R → Prop) → Prop
  | [.int i], K => K (.val (.int (if i < 0 then -i else i)))
  | _, _ => False
def cAbs : CaK := ⟨fAbs, kAbs, fun ds K h => by
  unfold kAbs at h
  split at h
  · exact ⟨_, rfl, h⟩
  · exact h.elim⟩
def kInt : List D → (R → Prop) → Prop
  | [.int i], K => K (.val (.int i))
  | [.bool b], K => K (.val (.int (if b then 1 else 0)))
  | _, _ => False
def cInt : CaK := ⟨fInt, kInt, fun ds K h => by
  unfold kInt at h
  split at h
  · exact ⟨_, rfl, h⟩
  · exact ⟨_, rfl, h⟩
  · exact h.elim⟩
end DL
namespace DL
open PySem L2 PyProof.Rows
section
variable {X : Cx} {a b : Expr} {ma mb : ME} {pos : Pos}
def kindD : D → String
  | .none => "NoneType"
  | .bool _ => "bool"
  | .int _ => "int"
  | .str _ => "str"
  | .list _ => "list"
  | .tuple _ => "tuple"
  | .dict _ => "dict"
/-- a value's type: a locked dict with tuple keys too -/
inductive TyD (K : Fg) (H : Hp) : V → Value → Prop where
  | x {v : V} {t : Value} : TyX K H v t → TyD K H v t
  | fT {a : Addr} {o : Obj} {kvs : List (List Key × V)} : H a = some (.frz o (.dT kvs)) → TyD K H (.ref a) (.type "dict")
theorem Rp.ty {K : Fg} {H : Hp} {v : V} {d : D} (h : Rp K H v d) : TyD K H v (.type (kindD d)) := by
  cases h with
  | non => exact .x (.base .non)
  | bl => exact .x (.base (.bl _))
  | int => exact .x (.base (.int _))
  | str => exact .x (.base (.str _))
  | lst h _ =>
    rcases h with h | ⟨o, h⟩
    · exact .x (.base (.lst h))
    · exact .x (.base (.frz h))
  | tup h _ =>
    have h := h.sqT
    rcases h with (h | ⟨o, h⟩) | ⟨o, its, n, h1, h2, _⟩
    · exact .x (.base (.tup h))
    · exact .x (.fTuple h)
    · exact .x (.kTuple h1 h2)
  | dct h _ _ _ =>
    rcases h with ⟨k, h | ⟨o, h⟩, _⟩ | ⟨k, h | ⟨o, h⟩, _⟩
    · exact .x (.base (.dK h))
    · exact .x (.fDict h)
    · exact .x (.base (.dT h))
    · exact .fT h
mutual
def noList : D → Bool
  | .list _ => false
  | .tuple ds => noListA ds
  | .dict kvs => noListK kvs
  | .none | .bool _ | .int _ | .str _ => true
def noListA : List D → Bool
  | [] => true
  | d :: ds => noList d && noListA ds
def noListK : List (D × D) → Bool
  | [] => true
  | (a, b) :: r => noList a && noList b && noListK r
end
theorem noListK_vals : ∀ {kvs : List (D × D)}, noListK kvs = true → noListA (kvs.map (·.2)) = true
  | [], _ => rfl
  | (a, b) :: r, h => by
    simp only [noListK, Bool.and_eq_true] at h
    simp only [List.map_cons, noListA, h.1.2, noListK_vals h.2, Bool.and_self]
/-- what repr is told of here -/
def reprOk (d : D) : Bool := d.showable && decide (d.shown.length ≤ sizeLine) && decide (d.depth ≤ 64) && (!d.hasDict || noList d)
def fRepr : FA
  | [d] => if reprOk d then some (.val (.str d.shown)) else none
  | _ => none
theorem reads_key {h : Heap} {k : Key} {u : Value} (q : keyIs k u = true) : Reads h u (kD k) [] := by
  rcases keyIs_shape q with ⟨i, t, rfl, rfl⟩ | ⟨x, t, rfl, rfl⟩
  · exact .int i t
  · exact .str x t
end
section
variable {X : Cx} {pins : List (Addr × Obj)} {σ : L2.St} {H : Hp} {s : Shared}
theorem reads_keys {P : Program} {w : World} {h : Heap} {es : List DictEntry} {kvs : List (Key × Value)} (p : Pairs (mixKind P w) es kvs) : ReadsAll h (es.map (·.key)) (kvs.map fun p => kD p.1) [] ∧ es.map (·.val) = kvs.map (·.2) := by
  induction p with
  | nil => exact ⟨.nil, rfl⟩
  | cons a b _ ih =>
    refine ⟨.cons (as := []) (reads_key a) ih.1, ?_⟩
    rw [List.map_cons, List.map_cons, b, ih.2]
theorem kv_split {kvs : List (Key × V)} {vs : List (Key × Value)} (h : KV kvs vs) : kvs.map (fun p => kD p.1) = vs.map (fun p => kD p.1) ∧ Vals (kvs.map (·.2)) (vs.map (·.2)) := by
  unfold KV at h
  induction h with
  | nil => exact ⟨rfl, .nil⟩
  | cons a _ ih =>
    refine ⟨?_, .cons a.2 ih.2⟩
    rw [List.map_cons, List.map_cons, ih.1, a.1]
theorem reads_tkey (I : Inv X pins σ H s) : ∀ (k : List Key) (us : List Value), Vals (k.map kV) us → ReadsAll s.heap us (k.map kD) []
  | [], _, r => by cases r; exact .nil
  | .inl i :: k, _, r => by
    cases r with | cons a b =>
    obtain ⟨t, rfl⟩ := a
    exact .cons (as := []) (.int i t) (reads_tkey I k _ b)
  | .inr x :: k, _, r => by
    cases r with | cons a b =>
    obtain ⟨t, rfl⟩ := a
    exact .cons (as := []) (.str x t) (reads_tkey I k _ b)
theorem tkv_split (I : Inv X pins σ H s) {kvs : List (List Key × V)} {xs : List (List Key × Addr × Value)} (h : Paired (fun (p : List Key × V) (q : List Key × Addr × Value) => p.1 = q.1 ∧ H q.2.1 = some (.tup (p.1.map kV)) ∧ RelV p.2 q.2.2) kvs xs) :
    ReadsAll s.heap (xs.map fun x => Value.ref x.2.1) (kvs.map fun p => ktD p.1) [] ∧ Vals (kvs.map (·.2)) (xs.map fun x => x.2.2) := by
  induction h with
  | nil => exact ⟨.nil, .nil⟩
  | cons a _ ih =>
    obtain ⟨its, rv, ⟨o, e1, e2, n, e3⟩, _⟩ := I.tuple (SqT.of a.2.1)
    exact ⟨.cons (as := []) (.tuple e1 e2 e3 (by simpa using reads_tkey I _ _ rv)) ih.1, .cons a.2.2 ih.2⟩
mutual
theorem Rp.reads (I : Inv X pins σ H s) : ∀ {v : V} {d : D}, Rp X.K H v d → ∀ {u : Value}, RelV v u → ∃ as, Reads s.heap u d as ∧ (noList d = true → sysModules ∉ as)
  | _, _, .non, _, r => by cases r; exact ⟨[], .none, fun _ => by simp⟩
  | _, _, .bl b, _, r => by cases r; exact ⟨[], .bool b, fun _ => by simp⟩
  | _, _, .int i, _, r => by obtain ⟨t, rfl⟩ := r; exact ⟨[], .int i t, fun _ => by simp⟩
  | _, _, .str x, _, r => by obtain ⟨t, rfl⟩ := r; exact ⟨[], .str x t, fun _ => by simp⟩
  | _, _, .lst h q, _, r => by
    cases r
    obtain ⟨_, its, n, rv, e⟩ := rd_list h I.hok
    obtain ⟨as, ra, _⟩ := RpA.reads I q rv
    exact ⟨_, .list e rfl rfl (by simpa using ra), fun z => by simp [noList] at z⟩
  | _, _, .tup h q, _, r => by
    cases r
    obtain ⟨its, rv, ⟨o, e1, e2, n, e3⟩, _⟩ := I.tuple h.sqT
    obtain ⟨as, ra, ns⟩ := RpA.reads I q rv
    exact ⟨_, .tuple e1 e2 e3 (by simpa using ra), fun z => ns (by simpa [noList] using z)⟩
  | _, _, .dct h q e1 e2, _, r => by
    have ih := fun us (r : Vals _ us) => RpA.reads I q r
    cases r
    subst e1; subst e2
    rcases h with ⟨kvs, hh, ek, ev⟩ | ⟨kvs, hh, ek, ev⟩
    · obtain ⟨_, ns, vs, kv, o, es, ep, g1, g2, g3, _, g5, _⟩ := rd_of I.hok hh
      obtain ⟨w1, w2⟩ := kv_split kv
      obtain ⟨k1, k2⟩ := reads_keys (h := s.heap) g5
      obtain ⟨bs, rb, nb⟩ := ih _ (by rw [ev]; exact w2)
      refine ⟨_, .dict (as := []) (bs := bs) g1 g2.1 g3 ?_ ?_, fun z => ?_⟩
      · rw [ek, w1]; exact k1
      · rw [k2]; exact rb
      · rw [List.singleton_append, List.mem_cons]
        rintro (y | y)
        · rw [y] at ns; simp at ns
        · exact nb (noListK_vals (by simpa [noList] using z)) y
    · obtain ⟨_, ns, xs, pr, o, es, ep, g1, g2, g3, g4, _⟩ := rd_of I.hok hh
      obtain ⟨w1, w2⟩ := tkv_split I pr
      obtain ⟨bs, rb, nb⟩ := ih _ (by rw [ev]; exact w2)
      refine ⟨_, .dict (as := []) (bs := bs) g1 g2.1 g3 ?_ ?_, fun z => ?_⟩
      · rw [ek, g4, List.map_map]; exact w1
      · rw [g4, List.map_map]; exact rb
      · rw [List.singleton_append, List.mem_cons]
        rintro (y | y)
        · rw [y] at ns; simp at ns
        · exact nb (noListK_vals (by simpa [noList] using z)) y
theorem RpA.reads (I : Inv X pins σ H s) : ∀ {vs : List V} {ds : List D}, RpA X.K H vs ds → ∀ {us : List Value}, Vals vs us → ∃ as, ReadsAll s.heap us ds as ∧ (noListA ds = true → sysModules ∉ as)
  | _, _, .nil, _, r => by cases r; exact ⟨[], .nil, fun _ => by simp⟩
  | _, _, .cons a b, _, r => by
    cases r with | cons r1 r2 =>
    obtain ⟨as, h1, n1⟩ := Rp.reads I a r1
    obtain ⟨bs, h2, n2⟩ := RpA.reads I b r2
    refine ⟨_, .cons h1 h2, fun z => ?_⟩
    simp only [noListA, Bool.and_eq_true] at z
    rw [List.mem_append]
    exact fun y => y.elim (n1 z.1) (n2 z.2)
end
end
section
variable {X : Cx}
theorem call_repr (hg : X.A.guards = some []) (hu : X.A.units + 66 < cLine) : CallR X (.builtin "repr") (fun xs H Q => ∃ v d, xs = [v] ∧ Rp X.K H v d ∧ reprOk d = true ∧ Q (.str d.shown) H) := by
  rintro pins s σ H _ us Q I r ⟨v, d, rfl, h, ok, q⟩
  obtain ⟨u, rfl, ru⟩ := vals1 r
  simp only [reprOk, Bool.and_eq_true, decide_eq_true_eq] at ok
  obtain ⟨⟨⟨o1, o2⟩, o3⟩, o4⟩ := ok
  obtain ⟨as, hr, ns⟩ := h.reads I ru
  have fin : ∀ t h' k, (∀ b o, s.heap.get? b = some o → h'.get? b = some o) → EP X pins σ Q (.str d.shown t) { s with heap := h', toks := k } := fun t h' k kk => ⟨.str _, H, I.kept (t' := k) kk, ⟨_, rfl⟩, q⟩
  have fin0 : ∀ t k, EP X pins σ Q (.str d.shown t) { s with toks := k } := fun t k => fin t s.heap k fun _ _ e => e
  have ref : ∀ a, u = .ref a → wpAny (model X.prog X.w) X.A (call (.builtin "repr") [u]) (EP X pins σ Q) X.xe s := by
    rintro a rfl
    refine repr_of_reads' hr o1 (fun hd => ?_) hg (by omega) (fun _ _ e => e) (fun h' t tk k => fin t h' tk k) o2
    rw [hd] at o4
    exact ns (by simpa using o4)
  cases hr with
  | none => exact PySem.P.repr_of_none (fin0 _ _)
  | bool b => exact PySem.P.repr_of_bool (by first | exact fin0 _ _)
  | int i t => exact PySem.P.repr_of_int (by simpa [PyData.showable] using o1) (fin0 _ _)
  | str x t => exact PySem.P.repr_of_str (fin0 _ _) o2
  | list _ _ _ _ => exact ref _ rfl
  | tuple _ _ _ _ => exact ref _ rfl
  | dict _ _ _ _ _ => exact ref _ rfl
theorem calld_repr (hg : X.A.guards = some []) (hu : X.A.units + 66 < cLine) : CallD X (.builtin "repr") fRepr := by
  refine ⟨_, call_repr hg hu, fun e F r s H vs ds z Q k l ef w => ?_⟩
  unfold fRepr at ef
  split at ef
  · split at ef
    · rename_i ok; cases ef
      obtain ⟨v, rfl, lk⟩ := l.one
      exact ⟨v, _, rfl, lk.all k.sub, ok, w _ F H k (Sub.refl F) (.val (.str _))⟩
    · cases ef
  · cases ef
end
def kRepr : List D → (R → Prop) → Prop
  | [d], K => rqB (reprOk d) (K (.val (.str d.shown)))
  | _, _ => False
def cRepr : CaK := ⟨fRepr, kRepr, fun ds K h => by
  unfold kRepr at h
  split at h
  · obtain ⟨h1, h2⟩ := rqB.ex h
    exact ⟨_, if_pos h1, h2⟩
  · exact h.elim⟩
end DL
namespace DL
open PySem L2 PyProof.Rows
structure Out where
  nx : Rho → Prop
  rt : R → Rho → Prop
  bk : Rho → Prop := fun _ => False
  ct : Rho → Prop := fun _ => False
abbrev MS := Rho → Out → Prop
/-- what the ends of a statement by data say of those by values -/
structure Hits (K : Fg) (e : En) (F : Hp) (O : Out) (D : Ends) : Prop where
  nx : ∀ r' s' F' H', O.nx r' → Ok K e F' r' s' H' → Sub F F' → D.nx s' H'
  rt : ∀ x r' v s' F' H', O.rt x r' → Ok K e F' r' s' H' → Sub F F' → RR K e F' r' s' H' x v → D.rt v H'
  bk : ∀ r' s' F' H', O.bk r' → Ok K e F' r' s' H' → Sub F F' → D.bk s' H'
  ct : ∀ r' s' F' H', O.ct r' → Ok K e F' r' s' H' → Sub F F' → D.ct s' H'
theorem Hits.mono {K : Fg} {e : En} {F G : Hp} {O : Out} {D : Ends} (h : Hits K e F O D) (q : Sub F G) : Hits K e G O D :=
  ⟨fun r' s' F' H' a b c => h.nx r' s' F' H' a b (q.trans c), fun x r' v s' F' H' a b c d => h.rt x r' v s' F' H' a b (q.trans c) d, fun r' s' F' H' a b c => h.bk r' s' F' H' a b (q.trans c), fun r' s' F' H' a b c => h.ct r' s' F' H' a b (q.trans c)⟩
def TSt (K : Fg) (e : En) (m : MS) : TS := fun D s H => ∃ F r, Ok K e F r s H ∧ ∃ O : Out, m r O ∧ Hits K e F O D
def DS (X : Cx) (a : Stmt) (m : MS) : Prop := ∀ e, PS X a (TSt X.K e m)
def DSs (X : Cx) (a : List Stmt) (m : MS) : Prop := ∀ e, PSs X a (TSt X.K e m)
theorem PS.imp {X : Cx} {a : Stmt} {t u : TS} (h : PS X a t) (i : ∀ D s H, u D s H → t D s H) : PS X a u := ⟨fun pins s σ H D I q => h.run pins s σ H D I (i _ _ _ q)⟩
theorem PSs.imp {X : Cx} {a : List Stmt} {t u : TS} (h : PSs X a t) (i : ∀ D s H, u D s H → t D s H) : PSs X a u := ⟨fun pins s σ H D I q => h.run pins s σ H D I (i _ _ _ q)⟩
def sNext : MS := fun r O => O.nx r
def sSeq (m n : MS) : MS := fun r O => m r { O with nx := fun r' => n r' O }
section
variable {X : Cx} {st : Stmt} {rest : List Stmt} {m n : MS} {a b c : Expr} {ma mb : ME} {ta : MT} {pos : Pos}
theorem dss_nil : DSs X [] sNext := fun e => PSs.imp pss_nil fun D s H ⟨F, r, k, O, hm, h⟩ => h.nx r s F H hm k (Sub.refl F)
theorem dss_one (h : DS X st m) : DSs X [st] m := fun e => pss_one (h e)
theorem dss_cons (h1 : DS X st m) (h2 : DSs X rest n) : DSs X (st :: rest) (sSeq m n) := fun e =>
  PSs.imp (pss_cons (h1 e) (h2 e)) fun D s H ⟨F, r, k, O, hm, h⟩ => ⟨F, r, k, _, hm, ⟨fun r' s' F' H' hn k' q => ⟨F', r', k', O, hn, h.mono q⟩, h.rt, h.bk, h.ct⟩⟩
def sExpr (m : ME) : MS := fun r O => m r fun _ r' => O.nx r'
theorem ds_expr (ha : DE X a ma) (hs : swapsWith a none pos.line X.env = pure false := by rfl) : DS X (.Expr a pos) (sExpr ma) := fun e =>
  PS.imp (ps_expr (ha e) hs) fun D s H ⟨F, r, k, O, hm, h⟩ => ⟨F, r, k, _, hm, fun x r' v F' H' hp k' q t => h.nx r' s F' H' hp k' q⟩
def sRet (m : ME) : MS := fun r O => m r fun x r' => O.rt x r'
theorem ds_ret (ha : DE X a ma) : DS X (.Return (some a) pos) (sRet ma) := fun e =>
  PS.imp (ps_ret (ha e)) fun D s H ⟨F, r, k, O, hm, h⟩ => ⟨F, r, k, _, hm, fun x r' v F' H' hp k' q t => h.rt x r' v s F' H' hp k' q t⟩
def sIf (t : MT) (m n : MS) : MS := fun r O => t r fun b r1 => brK b (m r1 O) (n r1 O)
theorem ds_if {sa sb : List Stmt} (hc : DT X c ta) (ha : DSs X sa m) (hb : DSs X sb n) : DS X (.If c sa sb pos) (sIf ta m n) := fun e =>
  PS.imp (ps_if (hc e) (ha e) (hb e)) fun D s H ⟨F, r, k, O, hm, h⟩ => ⟨F, r, k, _, hm, fun b r1 F1 H1 hp k1 q => by
    cases b with
    | true => rw [if_pos rfl]; exact ⟨F1, r1, k1, O, hp, h.mono q⟩
    | false => rw [if_neg Bool.false_ne_true]; exact ⟨F1, r1, k1, O, hp, h.mono q⟩⟩
end
section
variable {K : Fg} {e : En} {F : Hp} {r : Rho} {s : L2.St} {H : Hp}
/-- a datum is stored at a name -/
theorem Ok.store {i : Nat} {v : V} {d : D} (k : Ok K e F r s H) (h : Rp K F v d) : Ok K e F (r.set i (some (.val d))) (s.set i (some v)) H where
  len := by rw [List.length_set, List.length_set]; exact k.len
  sub := k.sub
  f0 := k.f0
  prot := k.prot
  new := k.new
  dom := k.dom
  slot := fun j d' z => by
    by_cases q : i = j
    · subst q
      have hl : i < r.length := by simpa using (List.getElem?_eq_some_iff.mp z).1
      rw [List.getElem?_set_self hl] at z
      cases z
      exact ⟨v, by rw [List.getElem?_set_self (by rw [← k.len]; exact hl)], h⟩
    · rw [List.getElem?_set_ne q] at z ⊢
      exact k.slot j d' z
  box := fun j b m z => by
    rcases get_set z with ⟨_, e2⟩ | ⟨q, e2⟩
    · cases e2
    · rw [List.getElem?_set_ne q]
      exact k.box j b m e2
  ob := fun j ns z => by
    rcases get_set z with ⟨_, e2⟩ | ⟨q, e2⟩
    · cases e2
    · rw [List.getElem?_set_ne q]
      exact k.ob j ns e2
  sep := fun j1 j2 p b m b' m' z1 z2 w1 w2 => by
    rcases get_set z1 with ⟨_, e2⟩ | ⟨q1, e2⟩
    · cases e2
    · rcases get_set z2 with ⟨_, e4⟩ | ⟨q2, e4⟩
      · cases e4
      · rw [List.getElem?_set_ne q1] at w1
        rw [List.getElem?_set_ne q2] at w2
        exact k.sep j1 j2 p b m b' m' e2 e4 w1 w2
  adr := fun j n a z => by
    rcases get_set z with ⟨_, e2⟩ | ⟨q, e2⟩
    · cases e2
    · rw [List.getElem?_set_ne q]
      exact k.adr j n a e2
  gh := fun j G z => by
    rcases get_set z with ⟨_, e2⟩ | ⟨q, e2⟩
    · cases e2
    · obtain ⟨g1, g2, g3⟩ := k.gh j G e2
      refine ⟨g1, fun j2 b m p z2 w => ?_, fun j2 G' z2 => ?_⟩
      · rcases get_set z2 with ⟨_, e4⟩ | ⟨q2, e4⟩
        · cases e4
        · rw [List.getElem?_set_ne q2] at w
          exact g2 j2 b m p e4 w
      · rcases get_set z2 with ⟨_, e4⟩ | ⟨q2, e4⟩
        · cases e4
        · exact g3 j2 G' e4
  gpF := k.gpF
/-- the script is stored at a name -/
theorem Ok.storeOb {i : Nat} {a : V} {ns : Ob} (k : Ok K e F r s H) (h : ObOk K F a ns) : Ok K e F (r.set i (some (.ob ns))) (s.set i (some a)) H where
  len := by rw [List.length_set, List.length_set]; exact k.len
  sub := k.sub
  f0 := k.f0
  prot := k.prot
  new := k.new
  dom := k.dom
  slot := fun j d' z => by
    rcases get_set z with ⟨_, e2⟩ | ⟨q, e2⟩
    · cases e2
    · rw [List.getElem?_set_ne q]
      exact k.slot j d' e2
  box := fun j b m z => by
    rcases get_set z with ⟨_, e2⟩ | ⟨q, e2⟩
    · cases e2
    · rw [List.getElem?_set_ne q]
      exact k.box j b m e2
  ob := fun j ns' z => by
    by_cases q : i = j
    · subst q
      have hl : i < r.length := by simpa using (List.getElem?_eq_some_iff.mp z).1
      rw [List.getElem?_set_self hl] at z
      cases z
      exact ⟨a, by rw [List.getElem?_set_self (by rw [← k.len]; exact hl)], h⟩
    · rw [List.getElem?_set_ne q] at z ⊢
      exact k.ob j ns' z
  sep := fun j1 j2 p b m b' m' z1 z2 w1 w2 => by
    rcases get_set z1 with ⟨_, e2⟩ | ⟨q1, e2⟩
    · cases e2
    · rcases get_set z2 with ⟨_, e4⟩ | ⟨q2, e4⟩
      · cases e4
      · rw [List.getElem?_set_ne q1] at w1
        rw [List.getElem?_set_ne q2] at w2
        exact k.sep j1 j2 p b m b' m' e2 e4 w1 w2
  adr := fun j n a z => by
    rcases get_set z with ⟨_, e2⟩ | ⟨q, e2⟩
    · cases e2
    · rw [List.getElem?_set_ne q]
      exact k.adr j n a e2
  gh := fun j G z => by
    rcases get_set z with ⟨_, e2⟩ | ⟨q, e2⟩
    · cases e2
    · obtain ⟨g1, g2, g3⟩ := k.gh j G e2
      refine ⟨g1, fun j2 b m p z2 w => ?_, fun j2 G' z2 => ?_⟩
      · rcases get_set z2 with ⟨_, e4⟩ | ⟨q2, e4⟩
        · cases e4
        · rw [List.getElem?_set_ne q2] at w
          exact g2 j2 b m p e4 w
      · rcases get_set z2 with ⟨_, e4⟩ | ⟨q2, e4⟩
        · cases e4
        · exact g3 j2 G' e4
  gpF := k.gpF
/-- a new object is stored at a name -/
theorem Ok.storeOwn {i : Nat} {p : Addr} {o : HO} {m : MB} (k : Ok K e F r s H) (h1 : H p = some o) (h2 : MO K F o m) (h3 : F p = none) (h4 : e.P p = none) (h5 : ¬ e.old p)
    (h6 : NB r s p) : Ok K e F (r.set i (some (.box false m))) (s.set i (some (.ref p))) H where
  len := by rw [List.length_set, List.length_set]; exact k.len
  sub := k.sub
  f0 := k.f0
  prot := k.prot
  new := k.new
  dom := k.dom
  slot := fun j d' z => by
    rcases get_set z with ⟨_, e2⟩ | ⟨q, e2⟩
    · cases e2
    · rw [List.getElem?_set_ne q]
      exact k.slot j d' e2
  box := fun j b m' z => by
    by_cases q : i = j
    · subst q
      have hl : i < r.length := by simpa using (List.getElem?_eq_some_iff.mp z).1
      rw [List.getElem?_set_self hl] at z
      cases z
      exact ⟨p, o, by rw [List.getElem?_set_self (by rw [← k.len]; exact hl)], h1, h2, h3, h4, fun _ => h5, fun z => Bool.noConfusion z⟩
    · rw [List.getElem?_set_ne q] at z ⊢
      exact k.box j b m' z
  ob := fun j ns z => by
    rcases get_set z with ⟨_, e2⟩ | ⟨q, e2⟩
    · cases e2
    · rw [List.getElem?_set_ne q]
      exact k.ob j ns e2
  sep := fun j1 j2 p' b m1 b' m2 z1 z2 w1 w2 => by
    rcases get_set z1 with ⟨q1, e2⟩ | ⟨q1, e2⟩
    · rcases get_set z2 with ⟨q2, e4⟩ | ⟨q2, e4⟩
      · exact q1.symm.trans q2
      · subst q1
        have hl : i < s.length := by rw [← k.len]; simpa using (List.getElem?_eq_some_iff.mp z1).1
        rw [List.getElem?_set_self hl] at w1
        cases w1
        rw [List.getElem?_set_ne q2] at w2
        exact absurd w2 (h6.1 j2 _ _ e4)
    · rw [List.getElem?_set_ne q1] at w1
      rcases get_set z2 with ⟨q2, e4⟩ | ⟨q2, e4⟩
      · subst q2
        have hl : i < s.length := by rw [← k.len]; simpa using (List.getElem?_eq_some_iff.mp z2).1
        rw [List.getElem?_set_self hl] at w2
        cases w2
        exact absurd w1 (h6.1 j1 _ _ e2)
      · rw [List.getElem?_set_ne q2] at w2
        exact k.sep j1 j2 p' b m1 b' m2 e2 e4 w1 w2
  adr := fun j n a z => by
    rcases get_set z with ⟨_, e2⟩ | ⟨q, e2⟩
    · cases e2
    · rw [List.getElem?_set_ne q]
      exact k.adr j n a e2
  gh := fun j G z => by
    rcases get_set z with ⟨_, e2⟩ | ⟨q, e2⟩
    · cases e2
    · obtain ⟨g1, g2, g3⟩ := k.gh j G e2
      refine ⟨g1, fun j2 b m p' z2 w => ?_, fun j2 G' z2 => ?_⟩
      · rcases get_set z2 with ⟨q2, e4⟩ | ⟨q2, e4⟩
        · subst q2
          have hl : i < s.length := by rw [← k.len]; simpa using (List.getElem?_eq_some_iff.mp z2).1
          rw [List.getElem?_set_self hl] at w
          cases w
          exact h6.2 j G e2
        · rw [List.getElem?_set_ne q2] at w
          exact g2 j2 b m p' e4 w
      · rcases get_set z2 with ⟨_, e4⟩ | ⟨q2, e4⟩
        · cases e4
        · exact g3 j2 G' e4
  gpF := k.gpF
/-- the box of slot i holds another thing -/
theorem Ok.write {i : Nat} {b : Bool} {m m' : MB} {p : Addr} {o : HO} (k : Ok K e F r s H) (h : r[i]? = some (some (Ce.box b m))) (hp : s[i]? = some (some (V.ref p))) (h2 : MO K F o m') : Ok K e F (r.set i (some (.box b m'))) s (upd H p o) := by
  obtain ⟨p', o', g1, g2, g3, g4, g5, g6⟩ := k.box i b m h
  rw [hp] at g1; cases g1
  refine ⟨by rw [List.length_set]; exact k.len, ?_, k.f0, ?_, k.new, ?_, ?_, ?_, ?_, ?_, ?_, ?_, k.gpF⟩
  · intro a u q
    rw [upd_ne (ne_of_none q g4)]
    exact k.sub a u q
  · intro a u q
    rw [upd_ne (ne_of_none q g5)]
    exact k.prot a u q
  · intro a z
    by_cases q : a = p
    · subst q; rw [upd_same]; simp
    · rw [upd_ne q]; exact k.dom a z
  · intro j d z
    rcases get_set z with ⟨_, e2⟩ | ⟨q, e2⟩
    · cases e2
    · exact k.slot j d e2
  · intro j b' m1 z
    rcases get_set z with ⟨q, e2⟩ | ⟨q, e2⟩
    · cases e2
      subst q
      exact ⟨p, o, hp, upd_same, h2, g4, g5, g6⟩
    · obtain ⟨p1, o1, w1, w2, w3, w4, w5, w6⟩ := k.box j b' m1 e2
      have ne : p1 ≠ p := fun y => by subst y; exact q (k.sep i j p1 b m b' m1 h e2 hp w1)
      exact ⟨p1, o1, w1, by rw [upd_ne ne]; exact w2, w3, w4, w5, w6⟩
  · intro j ns z
    rcases get_set z with ⟨_, e2⟩ | ⟨q, e2⟩
    · cases e2
    · exact k.ob j ns e2
  · intro j1 j2 p' b1 m1 b2 m2 z1 z2 w1 w2
    have f : ∀ (j : Nat) b1 m1, (r.set i (some (Ce.box b m')))[j]? = some (some (Ce.box b1 m1)) → ∃ b2 m2, r[j]? = some (some (Ce.box b2 m2)) := fun j b1 m1 z => by
      rcases get_set z with ⟨q, e2⟩ | ⟨q, e2⟩
      · subst q; exact ⟨b, m, h⟩
      · exact ⟨b1, m1, e2⟩
    obtain ⟨_, _, y1⟩ := f j1 _ _ z1
    obtain ⟨_, _, y2⟩ := f j2 _ _ z2
    exact k.sep j1 j2 p' _ _ _ _ y1 y2 w1 w2
  · intro j n a z
    rcases get_set z with ⟨_, e2⟩ | ⟨q, e2⟩
    · cases e2
    · exact k.adr j n a e2
  · intro j G z
    rcases get_set z with ⟨_, e2⟩ | ⟨q, e2⟩
    · cases e2
    · obtain ⟨y1, y2, y3⟩ := k.gh j G e2
      refine ⟨y1.move (Sub.refl F) (fun q w u x => ?_) (fun q w => (y1.fr q w).1) fun q w => ⟨(y1.fr q w).2.1, (y1.fr q w).2.2.1⟩, fun j2 b2 m2 p2 z2 w => ?_, fun j2 G' z2 => ?_⟩
      · rw [upd_ne (fun t => by subst t; exact y2 i b m q h hp w)]; exact x
      · rcases get_set z2 with ⟨q2, e4⟩ | ⟨q2, e4⟩
        · subst q2
          exact y2 i b m p2 h w
        · exact y2 j2 b2 m2 p2 e4 w
      · rcases get_set z2 with ⟨_, e4⟩ | ⟨q2, e4⟩
        · cases e4
        · exact y3 j2 G' e4
end
section
variable {K : Fg} {e : En} {F : Hp} {r : Rho} {s : L2.St} {H : Hp}
/-- a reference to a node is stored at a name -/
theorem Ok.storeAdr {i n : Nat} {a : Addr} (k : Ok K e F r s H) : Ok K e F (r.set i (some (.adr n a))) (s.set i (some (.ref a))) H where
  len := by rw [List.length_set, List.length_set]; exact k.len
  sub := k.sub
  f0 := k.f0
  prot := k.prot
  new := k.new
  dom := k.dom
  slot := fun j d' z => by
    rcases get_set z with ⟨_, e2⟩ | ⟨q, e2⟩
    · cases e2
    · rw [List.getElem?_set_ne q]
      exact k.slot j d' e2
  box := fun j b m z => by
    rcases get_set z with ⟨_, e2⟩ | ⟨q, e2⟩
    · cases e2
    · rw [List.getElem?_set_ne q]
      exact k.box j b m e2
  ob := fun j ns' z => by
    rcases get_set z with ⟨_, e2⟩ | ⟨q, e2⟩
    · cases e2
    · rw [List.getElem?_set_ne q]
      exact k.ob j ns' e2
  sep := fun j1 j2 p b m b' m' z1 z2 w1 w2 => by
    rcases get_set z1 with ⟨_, e2⟩ | ⟨q1, e2⟩
    · cases e2
    · rcases get_set z2 with ⟨_, e4⟩ | ⟨q2, e4⟩
      · cases e4
      · rw [List.getElem?_set_ne q1] at w1
        rw [List.getElem?_set_ne q2] at w2
        exact k.sep j1 j2 p b m b' m' e2 e4 w1 w2
  adr := fun j n' a' z => by
    rcases get_set z with ⟨q, e2⟩ | ⟨q, e2⟩
    · cases e2
      subst q
      have hl : i < s.length := by rw [← k.len]; simpa using (List.getElem?_eq_some_iff.mp z).1
      rw [List.getElem?_set_self hl]
    · rw [List.getElem?_set_ne q]
      exact k.adr j n' a' e2
  gh := fun j G z => by
    rcases get_set z with ⟨_, e2⟩ | ⟨q, e2⟩
    · cases e2
    · obtain ⟨g1, g2, g3⟩ := k.gh j G e2
      refine ⟨g1, fun j2 b m p z2 w => ?_, fun j2 G' z2 => ?_⟩
      · rcases get_set z2 with ⟨_, e4⟩ | ⟨q2, e4⟩
        · cases e4
        · rw [List.getElem?_set_ne q2] at w
          exact g2 j2 b m p e4 w
      · rcases get_set z2 with ⟨_, e4⟩ | ⟨q2, e4⟩
        · cases e4
        · exact g3 j2 G' e4
  gpF := k.gpF
end
/-- what an expression gave is put into slot i -/
def put (r : Rho) (i : Nat) : R → Option Rho
  | .val d => some (r.set i (some (.val d)))
  | .own m => some (r.set i (some (.box false m)))
  | .bor j => match r[j]? with
    | some (some (.box false m)) => some ((r.set j (some (.val m.toD))).set i (some (.val m.toD)))
    | _ => none
  | .ob ns => some (r.set i (some (.ob ns)))
  | .adr n a => some (r.set i (some (.adr n a)))
section
variable {K : Fg} {e : En} {F : Hp} {r : Rho} {s : L2.St} {H : Hp}
theorem RR.put {i : Nat} {x : R} {v : V} {r' : Rho} (h : RR K e F r s H x v) (k : Ok K e F r s H) (q : DL.put r i x = some r') : ∃ F', Ok K e F' r' (s.set i (some v)) H ∧ Sub F F' := by
  cases h with
  | val a => cases q; exact ⟨F, k.store a, Sub.refl F⟩
  | own h1 h2 h3 h4 h5 h6 => cases q; exact ⟨F, k.storeOwn h1 h2 h3 h4 h5 h6, Sub.refl F⟩
  | bor a b =>
    simp only [DL.put] at q
    split at q
    · rename_i z; cases q
      obtain ⟨F', v', k', s', g1, g2⟩ := k.freezeBox z
      rw [a] at g1; cases g1
      exact ⟨F', k'.store g2, s'⟩
    · cases q
  | ob a => cases q; exact ⟨F, k.storeOb a, Sub.refl F⟩
  | adr => cases q; exact ⟨F, k.storeAdr, Sub.refl F⟩
end
section
variable {X : Cx} {st : Stmt} {rest : List Stmt} {m n : MS} {a b c : Expr} {ma mb : ME} {ta : MT} {pos pos' : Pos} {x : Str}
/-- the cells one by one -/
def strict (r : Rho) (K : Rho → Prop) : Prop := match r with
  | [] => K []
  | c :: r => strict r fun r' => K (c :: r')
theorem strict.ex : ∀ {r : Rho} {K : Rho → Prop}, strict r K → K r
  | [], _, h => h
  | _ :: r, K, h => strict.ex (r := r) h
theorem strict.mk : ∀ {r : Rho} {K : Rho → Prop}, K r → strict r K
  | [], _, h => h
  | c :: r, K, h => strict.mk (r := r) (K := fun r' => K (c :: r')) h
def onS (o : Option Rho) (K : Rho → Prop) : Prop := onO o fun r => strict r K
theorem onS.ex {o : Option Rho} {K : Rho → Prop} (h : onS o K) : ∃ r, o = some r ∧ K r := by
  obtain ⟨r, e, q⟩ := onO.ex h
  exact ⟨r, e, q.ex⟩
def sSet (i : Nat) (m : ME) : MS := fun r O => m r fun x r1 => onS (put r1 i x) O.nx
theorem ds_set {i : Nat} (hN : X.N.Nodup) (hi : X.N[i]? = some x) (hx : Loc X.env.scope x) (ha : DE X a ma) (hs : swapsWith a (some (.Name x pos')) pos.line X.env = pure false := by rfl) (hf : X.fn x = true ∨ X.env.scope.names.lookup x = some .local := by first | exact .inl rfl | exact .inr rfl | assumption) :
    DS X (.Assign [.Name x pos'] a pos) (sSet i ma) := fun e =>
  PS.imp (ps_set hN hi hx (ha e) hs hf) fun D s H ⟨F, r, k, O, hm, h⟩ => ⟨F, r, k, _, hm, fun x r1 v F1 H1 hx k1 q t => by
    obtain ⟨r2, ep, hp⟩ := onS.ex hx
    obtain ⟨F2, k2, q2⟩ := t.put k1 ep
    exact h.nx r2 _ F2 H1 hp k2 (q.trans q2)⟩
end
end DL
namespace DL
open PySem L2 PyProof.Rows
def iAny (K : Fg) (tl : TE) : TI := fun σ H R => tl σ H fun x H1 => (∃ a, x = .ref a ∧ (∃ xs, SqL K H1 a xs) ∧ R (Itl K a) H1) ∨ (∃ a, x = .ref a ∧ (∃ xs, SqT K H1 a xs) ∧ R (Itt K a) H1) ∨ ∃ z, x = .str z ∧ R (Its z) H1
section
variable {X : Cx} {tg : Expr}
theorem pi_any {l : Expr} {tl : TE} (hl : PE X l tl) : PI X tg l (iAny X.K tl) := by
  refine ⟨fun pins s σ H R I h => thn (hl.run pins s σ H _ I h) ?_⟩
  rintro v s1 ⟨x, H1, I1, r1, q1⟩
  rcases q1 with ⟨a, rfl, ⟨xs, hq⟩, q⟩ | ⟨a, rfl, ⟨xs, hq⟩, q⟩ | ⟨z, rfl, q⟩
  · cases r1
    obtain ⟨its, _, p, _⟩ := I1.list hq
    exact wpAny_pyIter_list p.isList (pi_one (tk := s1.toks) I1 _ (turn_list a _) ⟨_, Heap.get?_push_size _ rfl, rfl, rfl⟩ q)
  · cases r1
    obtain ⟨its, _, p, _⟩ := I1.tuple hq
    exact wpAny_pyIter_tuple (show s1.heap.IsTuple a its.toArray from p) (pi_one (tk := s1.toks) I1 _ (turn_tuple a _) ⟨_, Heap.get?_push_size _ rfl, rfl, rfl⟩ q)
  · obtain ⟨t, rfl⟩ := r1
    cases ha : z.cps.all (· < 128) with
    | false => exact wpAny_pyIter_wide ha (pi_one (tk := s1.toks) I1 _ (turn_str _ z t "str_iterator" (.inr rfl)) ⟨_, Heap.get?_push_size _ rfl, rfl, rfl⟩ q)
    | true => exact wpAny_pyIter_ascii ha (pi_one (tk := s1.toks) I1 _ (turn_str _ z t "str_ascii_iterator" (.inl rfl)) ⟨_, Heap.get?_push_size _ rfl, rfl, rfl⟩ q)
end
/-- J walks the data ds, which stand in F0 -/
structure ItOk (K : Fg) (F0 : Hp) (J : It) (ds : List D) : Prop where
  go : ∀ i H, Sub F0 H → i < ds.length → J.go i H
  stop : ∀ i H, Sub F0 H → ds.length ≤ i → J.stop i H
  yld : ∀ i H x H', J.yld i H x H' → ∀ e F r s, Ok K e F r s H → Sub F0 F → i < ds.length → ∃ d, ds[i]? = some d ∧ ∃ F', Ok K e F' r s H' ∧ Sub F F' ∧ Rp K F' x d
abbrev MI := Rho → (List D → Rho → Prop) → Prop
def TIt (K : Fg) (e : En) (m : MI) : TI := fun s H Q => ∃ F r, Ok K e F r s H ∧ ∃ P : List D → Rho → Prop, m r P ∧ ∀ ds r' F' H' J, P ds r' → Ok K e F' r' s H' → Sub F F' → ItOk K F' J ds → Q J H'
def DI (X : Cx) (tg a : Expr) (m : MI) : Prop := ∀ e, PI X tg a (TIt X.K e m)
theorem PI.imp {X : Cx} {tg a : Expr} {t u : TI} (h : PI X tg a t) (i : ∀ s H Q, u s H Q → t s H Q) : PI X tg a u := ⟨fun pins s σ H Q I q => h.run pins s σ H Q I (i _ _ _ q)⟩
theorem itok_list {K : Fg} {F : Hp} {a : Addr} {xs : List V} {ds : List D} (h : Rd F a (.lst xs)) (r : RpA K F xs ds) : ItOk K F (Itl K a) ds where
  go := fun i H q hi => by
    have hl : i < xs.length := by rw [r.length]; exact hi
    exact ⟨xs, xs[i], .inl (q.rd h), List.getElem?_eq_getElem hl⟩
  stop := fun i H q hi => ⟨xs, .inl (q.rd h), by rw [r.length]; exact hi⟩
  yld := fun i H x H' ⟨e1, e2⟩ e F' r' s k q hi => by
    subst e1
    obtain ⟨d, g1, g2⟩ := r.get (e2 xs (.inl ((q.trans k.sub).rd h)))
    exact ⟨d, g1, F', k, Sub.refl _, g2.mono q⟩
theorem itok_tup {K : Fg} {F : Hp} {a : Addr} {xs : List V} {ds : List D} (h : SqT K F a xs) (r : RpA K F xs ds) : ItOk K F (Itt K a) ds where
  go := fun i H q hi => by
    have hl : i < xs.length := by rw [r.length]; exact hi
    exact ⟨xs, xs[i], q.sqT h, List.getElem?_eq_getElem hl⟩
  stop := fun i H q hi => ⟨xs, q.sqT h, by rw [r.length]; exact hi⟩
  yld := fun i H x H' ⟨e1, e2⟩ e F' r' s k q hi => by
    subst e1
    obtain ⟨d, g1, g2⟩ := r.get (e2 xs ((q.trans k.sub).sqT h))
    exact ⟨d, g1, F', k, Sub.refl _, g2.mono q⟩
/-- a text's signs -/
def signsD (x : Str) : List D := x.cps.toList.map fun c => .str ⟨#[c]⟩
theorem itok_str {K : Fg} {F : Hp} {x : Str} : ItOk K F (Its x) (signsD x) where
  go := fun i H q hi => by
    have hi' : i < x.cps.size := by simpa [signsD] using hi
    exact hi'
  stop := fun i H q hi => by
    have hi' : x.cps.size ≤ i := by simpa [signsD] using hi
    exact hi'
  yld := fun i H v H' ⟨e1, c, e2, e3⟩ e F' r' s k q hi => by
    subst e1; subst e3
    refine ⟨.str ⟨#[c]⟩, ?_, F', k, Sub.refl _, .str _⟩
    rw [signsD, List.getElem?_map, Array.getElem?_toList, e2]
    rfl
/-- the data that a datum is walked by -/
def itemsD : D → Option (List D)
  | .list ds => some ds
  | .tuple ds => some ds
  | .str x => some (signsD x)
  | _ => none
def iOf (m : ME) : MI := fun r P => m r fun x r1 => onP (hold r1 x.tmp) fun qa qb => onO (itemsD qa) fun ds => strict qb fun r2 => P ds r2
section
variable {X : Cx} {tg a b c : Expr} {ma mb : ME} {pos p : Pos} {es : List Expr} {ms : MA}
theorem di_of (h : DE X a ma) : DI X tg a (iOf ma) := fun e =>
  PI.imp (pi_any (h.tmp e)) fun s H Q ⟨F, r, k, P, hm, hP⟩ => ⟨F, r, k, fun x r1 => onP (hold r1 x) fun qa qb => onO (itemsD qa) fun ds => strict qb fun r2 => P ds r2, hm, fun x r1 v F1 H1 hx k1 q1 t => by
    obtain ⟨d, r2, eh, hx2⟩ := onP.ex hx
    obtain ⟨ds, ei, hx3⟩ := onO.ex hx2
    have hp := hx3.ex
    clear hx hx2 hx3
    obtain ⟨F2, k2, q2, rp⟩ := t.hold k1 eh
    have q := q1.trans q2
    cases d with
    | list ds' =>
      cases ei
      cases rp with | lst g1 g2 => exact .inl ⟨_, rfl, ⟨_, .inl (k2.sub.rd g1)⟩, hP _ r2 F2 H1 _ hp k2 q (itok_list g1 g2)⟩
    | tuple ds' =>
      cases ei
      cases rp with | tup g1 g2 => exact .inr (.inl ⟨_, rfl, ⟨_, k2.sub.sqT g1.sqT⟩, hP _ r2 F2 H1 _ hp k2 q (itok_tup g1.sqT g2)⟩)
    | str x =>
      cases ei
      cases rp
      exact .inr (.inr ⟨x, rfl, hP _ r2 F2 H1 _ hp k2 q itok_str⟩)
    | none => cases ei
    | bool _ => cases ei
    | int _ => cases ei
    | dict _ => cases ei⟩
def rangeD (lo : Int) (n : Nat) : List D := (List.range n).map fun i => .int (lo + (i : Nat))
theorem itok_range {K : Fg} {F : Hp} {lo : Int} {n : Nat} : ItOk K F (Itr lo n) (rangeD lo n) where
  go := fun i H q hi => by
    have hi' : i < n := by simpa [rangeD] using hi
    exact hi'
  stop := fun i H q hi => by
    have hi' : n ≤ i := by simpa [rangeD] using hi
    exact hi'
  yld := fun i H v H' ⟨e1, e2⟩ e F' r' s k q hi => by
    subst e1; subst e2
    have hi' : i < n := by simpa [rangeD] using hi
    refine ⟨.int (lo + (i : Nat)), ?_, F', k, Sub.refl _, .int _⟩
    rw [rangeD, List.getElem?_map, List.getElem?_range hi']
    rfl
def okR (i : Int) : Bool := Nat.ble i.natAbs 4000000000000000000
def iRange1 (m : ME) : MI := fun r P => m r fun x r1 => onO (inOf x) fun j => rqB (okR j) (P (rangeD 0 j.toNat) r1)
theorem di_range1 (hg : Gl X "range") (hm : X.mg "range" = none) (ha : DE X a ma) (hs : starEach [a] X.env = [(false, eval a X.env)] := by rfl) : DI X tg (.Call (.Name "range" p) [a] [] pos) (iRange1 ma) := fun e =>
  PI.imp (pi_range1 hg hm (pa_cons (ha e) pa_nil hs) hs) fun s H Q ⟨F, r, k, P, hm, hP⟩ => ⟨F, r, k, _, hm, fun x r1 v F1 H1 hx k1 q1 t => by
    obtain ⟨j, ei, hx2⟩ := onO.ex hx
    obtain ⟨ok, hp⟩ := rqB.ex hx2
    have e1 := inOf_of ei
    subst e1
    cases t with | val a =>
    cases a
    have ok := Nat.le_of_ble_eq_true ok
    exact ⟨j, rfl, by omega, by omega, hP _ r1 F1 H1 _ hp k1 q1 itok_range⟩⟩
end
end DL
namespace DL
open PySem L2 PyProof.Rows
abbrev GT := D → Rho → Option Rho
def TGt (K : Fg) (e : En) (vs : List Nat) (g : GT) : TG := fun v s H Q => ∃ F r d r', Ok K e F r s H ∧ Rp K F v d ∧ g d r = some r' ∧ ∀ s' F' H', Ok K e F' r' s' H' → Sub F F' → wipe s' vs = wipe s vs → Q s' H'
def DG (X : Cx) (a : Expr) (vs : List Nat) (g : GT) : Prop := ∀ e, PG X a (TGt X.K e vs g)
theorem PG.imp {X : Cx} {a : Expr} {t u : TG} (h : PG X a t) (i : ∀ v s H Q, u v s H Q → t v s H Q) : PG X a u := ⟨fun pins s σ H v w Q I r q => h.run pins s σ H v w Q I r (i _ _ _ _ q)⟩
theorem wipe_get (s : L2.St) : ∀ (vs : List Nat) (j : Nat), (wipe s vs)[j]? = if j ∈ vs ∧ j < s.length then some none else s[j]?
  | [], j => by simp [wipe]
  | v :: vs, j => by
    unfold wipe
    have ih := wipe_get s vs j
    by_cases q : v = j
    · subst q
      by_cases hl : v < s.length
      · rw [List.getElem?_set_self (by rw [wipe_length]; exact hl), if_pos ⟨List.mem_cons_self, hl⟩]
      · rw [if_neg (fun z => hl z.2), List.getElem?_eq_none (by rw [List.length_set, wipe_length]; omega), List.getElem?_eq_none (by omega)]
    · rw [List.getElem?_set_ne q, ih]
      have : j ∈ v :: vs ↔ j ∈ vs := by rw [List.mem_cons]; exact ⟨fun z => z.elim (fun y => absurd y.symm q) id, .inr⟩
      simp only [this]
theorem wipe_set {s : L2.St} {i : Nat} {x : Option V} {vs : List Nat} (h : i ∈ vs) : wipe (s.set i x) vs = wipe s vs := by
  apply List.ext_getElem?
  intro j
  rw [wipe_get, wipe_get, List.length_set]
  by_cases q : i = j
  · subst q
    by_cases hl : i < s.length
    · rw [if_pos ⟨h, hl⟩, if_pos ⟨h, hl⟩]
    · rw [if_neg (fun z => hl z.2), if_neg (fun z => hl z.2), List.getElem?_eq_none (by rw [List.length_set]; omega), List.getElem?_eq_none (by omega)]
  · rw [List.getElem?_set_ne q]
def gNm (i : Nat) : GT := fun d r => some (r.set i (some (.val d)))
abbrev GTs := List D → Rho → Option Rho
def gNl : GTs := fun ds r => match ds with
  | [] => some r
  | _ => none
def gCs (g : GT) (gs : GTs) : GTs := fun ds r => match ds with
  | d :: ds => match g d r with
    | some r1 => gs ds r1
    | none => none
  | [] => none
def gTp (n : Nat) (gs : GTs) : GT := fun d r => match d with
  | .tuple ds => if ds.length = n then gs ds r else none
  | _ => none
def TGts (K : Fg) (e : En) (vs : List Nat) (g : GTs) : TGs := fun us s H Q => ∃ F r ds r', Ok K e F r s H ∧ RpA K F us ds ∧ g ds r = some r' ∧ ∀ s' F' H', Ok K e F' r' s' H' → Sub F F' → wipe s' vs = wipe s vs → Q s' H'
def DGs (X : Cx) (a : List Expr) (vs : List Nat) (g : GTs) : Prop := ∀ e, PGs X a (TGts X.K e vs g)
theorem PGs.imp {X : Cx} {a : List Expr} {t u : TGs} (h : PGs X a t) (i : ∀ v s H Q, u v s H Q → t v s H Q) : PGs X a u := ⟨fun pins s σ H v w Q I r q => h.run pins s σ H v w Q I r (i _ _ _ _ q)⟩
section
variable {X : Cx} {a b c : Expr} {es : List Expr} {x : Str} {pos : Pos} {vs : List Nat} {g : GT} {gs : GTs}
theorem dg_name {i : Nat} (hN : X.N.Nodup) (hi : X.N[i]? = some x) (hx : Loc X.env.scope x) (hv : i ∈ vs) (hf : X.fn x = true ∨ X.env.scope.names.lookup x = some .local := by first | exact .inl rfl | exact .inr rfl | assumption) : DG X (.Name x pos) vs (gNm i) := fun e =>
  PG.imp (pg_name hN hi hx hf) fun v s H Q ⟨F, r, d, r', k, rp, eg, hQ⟩ => by
    cases eg
    exact hQ _ F H (k.store rp) (Sub.refl F) (wipe_set hv)
theorem dgs_nil : DGs X [] vs gNl := fun e => PGs.imp pgs_nil fun v s H Q ⟨F, r, d, r', k, rp, eg, hQ⟩ => by
  cases rp with
  | nil => cases eg; exact ⟨rfl, hQ s F H k (Sub.refl F) rfl⟩
  | cons _ _ => cases eg
theorem dgs_cons (h1 : DG X a vs g) (h2 : DGs X es vs gs) (hs : (assignEach (a :: es) X.env).map (·.2) = assign a X.env :: (assignEach es X.env).map (·.2) := by rfl) : DGs X (a :: es) vs (gCs g gs) := fun e =>
  PGs.imp (pgs_cons (h1 e) (h2 e) hs) fun v s H Q ⟨F, r, d, r', k, rp, eg, hQ⟩ => by
    cases rp with
    | nil => cases eg
    | cons r1 r2 =>
      simp only [gCs] at eg
      split at eg
      · rename_i r1' e1
        refine ⟨_, _, rfl, F, r, _, r1', k, r1, e1, fun s1 F1 H1 k1 q1 w1 => ⟨F1, r1', _, r', k1, r2.mono q1, eg, fun s2 F2 H2 k2 q2 w2 => hQ s2 F2 H2 k2 (q1.trans q2) (w2.trans w1)⟩⟩
      · cases eg
theorem dg_tup {k : Nat} {n : Nat} (hc : X.calm = true) (h : DGs X es vs gs) (hn : (assignEach es X.env).length = n := by rfl) (hst : (assignEach es X.env).findIdx? (·.1) = none := by rfl) : DG X (.Tuple es k pos) vs (gTp n gs) := fun e =>
  PG.imp (pg_tup hc (h e) hn hst) fun v s H Q ⟨F, r, d, r', k, rp, eg, hQ⟩ => by
    cases d with
    | tuple ds =>
      simp only [gTp] at eg
      split at eg
      · rename_i hl
        cases rp with | tup g1 g2 => exact ⟨_, _, rfl, k.sub.sqT g1.sqT, by rw [g2.length]; exact hl, F, r, ds, r', k, g2, eg, hQ⟩
      · cases eg
    | _ => cases eg
end
def loopM (g : GT) (body : MS) : List D → MS
  | [], r, O => O.nx r
  | d :: ds, r, O => onS (g d r) fun r1 => body r1 ⟨fun r' => loopM g body ds r' O, O.rt, O.nx, fun r' => loopM g body ds r' O⟩
/-- a loop: here a proof speaks -/
structure Lp (g : GT) (body : MS) (ds : List D) (r : Rho) (O : Out) : Prop where
  h : loopM g body ds r O
def sFor (mi : MI) (g : GT) (body : MS) : MS := fun r O => mi r fun ds r1 => Lp g body ds r1 O
theorem drop_cons {α : Type} {l : List α} {i : Nat} {d : α} (h : l[i]? = some d) : l.drop i = d :: l.drop (i + 1) := by
  obtain ⟨hi, e⟩ := List.getElem?_eq_some_iff.mp h
  rw [List.drop_eq_getElem_cons hi, e]
section
variable {X : Cx} {st : Stmt} {rest : List Stmt} {m n : MS} {a b c tg : Expr} {ma mb : ME} {ta : MT} {pos pos' : Pos} {x : Str} {body : List Stmt} {mi : MI} {g : GT} {vs : List Nat}
theorem ds_for (hp : PassesOwn (model X.prog X.w) X.A X.env X.xe) (hc : X.calm = true) (hi : DI X tg a mi) (hg : DG X tg vs g) (hb : DSs X body m) (hs : ∀ x, foldedSetIterable a X.env x = pure x := by intro _; rfl) : DS X (.For tg a body [] pos) (sFor mi g m) := fun e =>
  PS.imp (ps_for hp hc (hi e) (hg e) (hb e) hs) fun D s H ⟨F, r, k, O, hm, h⟩ => ⟨F, r, k, _, hm, fun ds r1 F1 H1 J hl k1 q1 ok => by
    have h1 := h.mono q1
    refine ⟨fun i m s H => ∃ F r, Ok X.K e F r s H ∧ Sub F1 F ∧ i ≤ ds.length ∧ m = ds.length - i ∧ loopM g _ (ds.drop i) r O, ⟨_, F1, r1, k1, Sub.refl _, Nat.zero_le _, rfl, by rw [List.drop_zero]; exact hl.h⟩, ?_⟩
    rintro i m s2 H2 ⟨F2, r2, k2, q2, hi, rfl, hl2⟩
    by_cases hn : i < ds.length
    · refine .inr ⟨ok.go i H2 (q2.trans k2.sub) hn, fun s H => ∃ F r, Ok X.K e F r s H ∧ Sub F1 F ∧ loopM g _ (ds.drop (i + 1)) r O, fun s3 H3 ⟨F3, r3, k3, q3, hl3⟩ => ⟨_, by omega, F3, r3, k3, q3, hn, rfl, hl3⟩, fun x H3 hy => ?_⟩
      obtain ⟨d, ed, F3, k3, q3, rp⟩ := ok.yld i H2 x H3 hy e F2 r2 s2 k2 q2 hn
      rw [drop_cons ed] at hl2
      obtain ⟨r4, eg, hb4⟩ := onS.ex hl2
      refine ⟨F3, r2, d, r4, k3, rp, eg, fun s5 F5 H5 k5 q5 _ => ⟨F5, r4, k5, _, hb4, ?_⟩⟩
      have q25 : Sub F1 F5 := (q2.trans q3).trans q5
      exact ⟨fun r' s' F' H' hn k' q' => ⟨F', r', k', q25.trans q', hn⟩, fun x r' v s' F' H' hr k' q' t => h1.rt x r' v s' F' H' hr k' (q25.trans q') t, fun r' s' F' H' hn k' q' => h1.nx r' s' F' H' hn k' (q25.trans q'), fun r' s' F' H' hn k' q' => ⟨F', r', k', q25.trans q', hn⟩⟩
    · have e0 : i = ds.length := by omega
      subst e0
      rw [List.drop_length] at hl2
      exact .inl ⟨ok.stop _ H2 (q2.trans k2.sub) (Nat.le_refl _), h1.nx r2 s2 F2 H2 hl2 k2 q2⟩⟩
def sWhile (t : MT) (body : MS) : MS := fun r O => ∃ W : Nat → Rho → Prop, (∃ m, W m r) ∧ ∀ m r, W m r → t r fun b r1 => brK b (body r1 ⟨fun r' => ∃ m', m' < m ∧ W m' r', O.rt, O.nx, fun r' => ∃ m', m' < m ∧ W m' r'⟩) (O.nx r1)
theorem ds_while (hp : PassesOwn (model X.prog X.w) X.A X.env X.xe) (hc : DT X c ta) (hb : DSs X body m) : DS X (.While c body [] pos) (sWhile ta m) := fun e =>
  PS.imp (ps_while hp (hc e) (hb e)) fun D s H ⟨F, r, k, O, ⟨W, ⟨m0, w0⟩, turn⟩, h⟩ => by
    refine ⟨fun m s H => ∃ F1 r, Ok X.K e F1 r s H ∧ Sub F F1 ∧ W m r, ⟨m0, F, r, k, Sub.refl _, w0⟩, ?_⟩
    rintro m s1 H1 ⟨F1, r1, k1, q1, w1⟩
    refine ⟨F1, r1, k1, _, turn m r1 w1, fun b r2 F2 H2 hb2 k2 q2 => ?_⟩
    have q12 := q1.trans q2
    cases b with
    | true =>
      refine iteT ?_
      refine ⟨fun s H => ∃ m', m' < m ∧ ∃ F1 r, Ok X.K e F1 r s H ∧ Sub F F1 ∧ W m' r, fun s' H' z => z, F2, r2, k2, _, hb2, ⟨?_, fun x r' v s' F' H' hr k' q' t => h.rt x r' v s' F' H' hr k' (q12.trans q') t, fun r' s' F' H' hn k' q' => h.nx r' s' F' H' hn k' (q12.trans q'), ?_⟩⟩
      · rintro r' s' F' H' ⟨m', lt, w'⟩ k' q'
        exact ⟨m', lt, F', r', k', q12.trans q', w'⟩
      · rintro r' s' F' H' ⟨m', lt, w'⟩ k' q'
        exact ⟨m', lt, F', r', k', q12.trans q', w'⟩
    | false =>
      refine iteF ?_
      exact h.nx r2 s1 F2 H2 hb2 k2 q12
end
end DL
namespace DL
open PySem L2 PyProof.Rows
def wipeR (r : Rho) : List Nat → Rho
  | [] => r
  | v :: vs => (wipeR r vs).set v none
/-- the slots vs as they were in r0 -/
def backR (r r0 : Rho) : List Nat → Rho
  | [] => r
  | v :: vs => (backR r r0 vs).set v (r0.getD v none)
theorem wipeR_length (r : Rho) : ∀ vs : List Nat, (wipeR r vs).length = r.length
  | [] => rfl
  | v :: vs => by unfold wipeR; rw [List.length_set, wipeR_length r vs]
theorem backR_length (r r0 : Rho) : ∀ vs : List Nat, (backR r r0 vs).length = r.length
  | [] => rfl
  | v :: vs => by unfold backR; rw [List.length_set, backR_length r r0 vs]
theorem wipeR_get (r : Rho) : ∀ (vs : List Nat) (j : Nat), (wipeR r vs)[j]? = if j ∈ vs ∧ j < r.length then some none else r[j]?
  | [], j => by simp [wipeR]
  | v :: vs, j => by
    unfold wipeR
    have ih := wipeR_get r vs j
    by_cases q : v = j
    · subst q
      by_cases hl : v < r.length
      · rw [List.getElem?_set_self (by rw [wipeR_length]; exact hl), if_pos ⟨List.mem_cons_self, hl⟩]
      · rw [if_neg (fun z => hl z.2), List.getElem?_eq_none (by rw [List.length_set, wipeR_length]; omega), List.getElem?_eq_none (by omega)]
    · rw [List.getElem?_set_ne q, ih]
      have : j ∈ v :: vs ↔ j ∈ vs := by rw [List.mem_cons]; exact ⟨fun z => z.elim (fun y => absurd y.symm q) id, .inr⟩
      simp only [this]
theorem backR_get (r r0 : Rho) : ∀ (vs : List Nat) (j : Nat), (backR r r0 vs)[j]? = if j ∈ vs ∧ j < r.length then some (r0.getD j none) else r[j]?
  | [], j => by simp [backR]
  | v :: vs, j => by
    unfold backR
    have ih := backR_get r r0 vs j
    by_cases q : v = j
    · subst q
      by_cases hl : v < r.length
      · rw [List.getElem?_set_self (by rw [backR_length]; exact hl), if_pos ⟨List.mem_cons_self, hl⟩]
      · rw [if_neg (fun z => hl z.2), List.getElem?_eq_none (by rw [List.length_set, backR_length]; omega), List.getElem?_eq_none (by omega)]
    · rw [List.getElem?_set_ne q, ih]
      have : j ∈ v :: vs ↔ j ∈ vs := by rw [List.mem_cons]; exact ⟨fun z => z.elim (fun y => absurd y.symm q) id, .inr⟩
      simp only [this]
section
variable {K : Fg} {e : En} {F : Hp} {r : Rho} {s : L2.St} {H : Hp}
/-- slots are forgotten -/
theorem Ok.wipe (k : Ok K e F r s H) (vs : List Nat) : Ok K e F (wipeR r vs) (L2.wipe s vs) H where
  len := by rw [wipeR_length, wipe_length]; exact k.len
  sub := k.sub
  f0 := k.f0
  prot := k.prot
  new := k.new
  dom := k.dom
  slot := fun i d z => by
    rw [wipeR_get] at z
    split at z
    · cases z
    · rename_i q
      rw [wipe_get, ← k.len, if_neg q]
      exact k.slot i d z
  box := fun i b m z => by
    rw [wipeR_get] at z
    split at z
    · cases z
    · rename_i q
      rw [wipe_get, ← k.len, if_neg q]
      exact k.box i b m z
  ob := fun i ns z => by
    rw [wipeR_get] at z
    split at z
    · cases z
    · rename_i q
      rw [wipe_get, ← k.len, if_neg q]
      exact k.ob i ns z
  sep := fun i j p b m b' m' z1 z2 w1 w2 => by
    rw [wipeR_get] at z1 z2
    split at z1
    · cases z1
    · split at z2
      · cases z2
      · rename_i q1 q2
        rw [wipe_get, ← k.len, if_neg q1] at w1
        rw [wipe_get, ← k.len, if_neg q2] at w2
        exact k.sep i j p b m b' m' z1 z2 w1 w2
  adr := fun i n a z => by
    rw [wipeR_get] at z
    split at z
    · cases z
    · rename_i q
      rw [wipe_get, ← k.len, if_neg q]
      exact k.adr i n a z
  gh := fun i G z => by
    rw [wipeR_get] at z
    split at z
    · cases z
    · obtain ⟨g1, g2, g3⟩ := k.gh i G z
      refine ⟨g1, fun j b m p z2 w => ?_, fun j G' z2 => ?_⟩
      · rw [wipeR_get] at z2
        split at z2
        · cases z2
        · rename_i q2
          rw [wipe_get, ← k.len, if_neg q2] at w
          exact g2 j b m p z2 w
      · rw [wipeR_get] at z2
        split at z2
        · cases z2
        · exact g3 j G' z2
  gpF := k.gpF
def noBox (r : Rho) (vs : List Nat) : Bool := vs.all fun v => match r.getD v none with
  | some (.box _ _) => false
  | some (.ob _) => false
  | some (.gh _) => false
  | _ => true
/-- slots come back -/
theorem Ok.back {F0 : Hp} {r0 : Rho} {H0 : Hp} {vs : List Nat} (k0 : Ok K e F0 r0 s H0) (nb : noBox r0 vs = true) (k : Ok K e F r (L2.wipe s vs) H) (q : Sub F0 F) : Ok K e F (backR r r0 vs) s H := by
  have hl : r.length = s.length := k.len.trans (wipe_length s vs)
  have nob : ∀ j ∈ vs, ∀ b m, r0.getD j none ≠ some (Ce.box b m) := fun j hj b m z => by
    have := (List.all_eq_true.mp nb) j hj
    rw [z] at this
    exact Bool.noConfusion this
  have hb : ∀ (j : Nat) b m, (backR r r0 vs)[j]? = some (some (Ce.box b m)) → ¬ (j ∈ vs ∧ j < r.length) ∧ r[j]? = some (some (Ce.box b m)) := fun j b m z => by
    rw [backR_get] at z
    split at z
    · rename_i y; exact absurd (Option.some.inj z) (nob j y.1 b m)
    · rename_i y; exact ⟨y, z⟩
  refine ⟨(backR_length r r0 vs).trans hl, k.sub, k.f0, k.prot, k.new, k.dom, ?_, ?_, ?_, ?_, ?_, ?_, k.gpF⟩
  · intro j d z
    rw [backR_get] at z
    split at z
    · rename_i y
      have z' : r0[j]? = some (some (Ce.val d)) := by
        have h1 := Option.some.inj z
        rw [List.getD_eq_getElem?_getD] at h1
        cases w : r0[j]? with
        | none => rw [w] at h1; cases h1
        | some u => rw [w] at h1; rw [show u = some (Ce.val d) from h1]
      obtain ⟨v, g1, g2⟩ := k0.slot j d z'
      exact ⟨v, g1, g2.mono q⟩
    · rename_i y
      obtain ⟨v, g1, g2⟩ := k.slot j d z
      rw [wipe_get, ← hl, if_neg y] at g1
      exact ⟨v, g1, g2⟩
  · intro j b m z
    obtain ⟨y, z⟩ := hb j b m z
    obtain ⟨p, o, g1, g2⟩ := k.box j b m z
    rw [wipe_get, ← hl, if_neg y] at g1
    exact ⟨p, o, g1, g2⟩
  · intro j ns z
    rw [backR_get] at z
    split at z
    · rename_i y
      have := (List.all_eq_true.mp nb) j y.1
      rw [Option.some.inj z] at this
      exact Bool.noConfusion this
    · rename_i y
      obtain ⟨a, g1, g2⟩ := k.ob j ns z
      rw [wipe_get, ← hl, if_neg y] at g1
      exact ⟨a, g1, g2⟩
  · intro i j p b m b' m' z1 z2 w1 w2
    obtain ⟨y1, z1⟩ := hb i b m z1
    obtain ⟨y2, z2⟩ := hb j b' m' z2
    refine k.sep i j p b m b' m' z1 z2 ?_ ?_
    · rw [wipe_get, ← hl, if_neg y1]; exact w1
    · rw [wipe_get, ← hl, if_neg y2]; exact w2
  · intro j n a z
    rw [backR_get] at z
    split at z
    · rename_i y
      have z' : r0[j]? = some (some (Ce.adr n a)) := by
        have h1 := Option.some.inj z
        rw [List.getD_eq_getElem?_getD] at h1
        cases w : r0[j]? with
        | none => rw [w] at h1; cases h1
        | some u => rw [w] at h1; rw [show u = some (Ce.adr n a) from h1]
      exact k0.adr j n a z'
    · rename_i y
      have g1 := k.adr j n a z
      rw [wipe_get, ← hl, if_neg y] at g1
      exact g1
  · intro j G z
    have hg : ∀ (j : Nat) G, (backR r r0 vs)[j]? = some (some (Ce.gh G)) → r[j]? = some (some (Ce.gh G)) := fun j G z => by
      rw [backR_get] at z
      split at z
      · rename_i y
        have := (List.all_eq_true.mp nb) j y.1
        rw [Option.some.inj z] at this
        exact Bool.noConfusion this
      · exact z
    obtain ⟨g1, g2, g3⟩ := k.gh j G (hg j G z)
    refine ⟨g1, fun j2 b m p z2 w => ?_, fun j2 G' z2 => g3 j2 G' (hg j2 G' z2)⟩
    obtain ⟨y, z3⟩ := hb j2 b m z2
    refine g2 j2 b m p z3 ?_
    rw [wipe_get, ← hl, if_neg y]; exact w
theorem nb_back {r0 : Rho} {vs : List Nat} {p : Addr} (hl : r.length = s.length) (nb : noBox r0 vs = true) (g : NB r (L2.wipe s vs) p) : NB (backR r r0 vs) s p := by
  refine ⟨fun j b m' z y => ?_, fun j G z => ?_⟩
  · rw [backR_get] at z
    split at z
    · rename_i yy
      have := (List.all_eq_true.mp nb) j yy.1
      rw [Option.some.inj z] at this
      exact Bool.noConfusion this
    · rename_i yy
      refine g.1 j b m' z ?_
      rw [wipe_get, ← hl, if_neg yy]
      exact y
  · rw [backR_get] at z
    split at z
    · rename_i yy
      have := (List.all_eq_true.mp nb) j yy.1
      rw [Option.some.inj z] at this
      exact Bool.noConfusion this
    · exact g.2 j G z
/-- one more thing that stays -/
def En.keep (e : En) (p : Addr) (o : HO) : En := ⟨e.F0, upd e.P p o, e.old, e.prm, e.gp⟩
theorem Ok.keep {p : Addr} {o : HO} (k : Ok K e F r s H) (h : H p = some o) (hF : F p = none) (hb : NB r s p) : Ok K (e.keep p o) F r s H where
  len := k.len
  sub := k.sub
  f0 := k.f0
  prot := fun a u q => by
    by_cases z : a = p
    · subst z; rw [show (e.keep a o).P = upd e.P a o from rfl, upd_same] at q; cases q; exact h
    · rw [show (e.keep p o).P = upd e.P p o from rfl, upd_ne z] at q; exact k.prot a u q
  new := fun a u q => by
    by_cases z : a = p
    · subst z; rw [hF] at q; cases q
    · rw [show (e.keep p o).P = upd e.P p o from rfl, upd_ne z]; exact k.new a u q
  dom := k.dom
  slot := k.slot
  box := fun i b m z => by
    obtain ⟨q, u, g1, g2, g3, g4, g5, g6⟩ := k.box i b m z
    have ne : q ≠ p := fun y => by subst y; exact hb.1 i b m z g1
    exact ⟨q, u, g1, g2, g3, g4, by rw [show (e.keep p o).P = upd e.P p o from rfl, upd_ne ne]; exact g5, g6⟩
  ob := k.ob
  sep := k.sep
  adr := k.adr
  gh := fun i G z => by
    obtain ⟨g1, g2, g3⟩ := k.gh i G z
    refine ⟨g1.move (Sub.refl F) (fun q w u x => x) (fun q w => (g1.fr q w).1) fun q w => ⟨?_, (g1.fr q w).2.2.1⟩, g2, g3⟩
    rw [show (e.keep p o).P = upd e.P p o from rfl, upd_ne (fun y => by subst y; exact hb.2 i G z w)]
    exact (g1.fr q w).2.1
  gpF := k.gpF
theorem Ok.unkeep {p : Addr} {o : HO} (k : Ok K (e.keep p o) F r s H) (hP : e.P p = none) (hF0 : e.F0 p = none) (hnt : ∀ xs, o ≠ .tup xs := by first | (intro _ z; cases z) | (intro _ z; have z' : HO.ext _ = HO.tup _ := z; cases z')) : Ok K e F r s H ∧ H p = some o ∧ F p = none ∧ NB r s p := by
  have hp : (e.keep p o).P p = some o := upd_same
  have hF : F p = none := by
    cases q : F p with
    | none => rfl
    | some u =>
      rcases k.new p u q with z | z | ⟨xs, z⟩
      · rw [show (e.keep p o).F0 = e.F0 from rfl, hF0] at z; cases z
      · rw [hp] at z; cases z
      · have h1 := k.sub p u q
        rw [k.prot p o hp, z] at h1
        exact absurd (Option.some.inj h1) (hnt xs)
  refine ⟨⟨k.len, k.sub, k.f0, fun a u q => ?_, fun a u q => ?_, k.dom, k.slot, fun i b m z => ?_, k.ob, k.sep, k.adr, fun i G z => ?_, k.gpF⟩, k.prot p o hp, hF, fun i b m z y => ?_, fun i G z w => ?_⟩
  · refine k.prot a u ?_
    rw [show (e.keep p o).P = upd e.P p o from rfl, upd_ne (ne_of_none q hP)]
    exact q
  · rcases k.new a u q with z | z | z
    · exact .inl z
    · by_cases y : a = p
      · subst y; rw [hp] at z; cases z
      · rw [show (e.keep p o).P = upd e.P p o from rfl, upd_ne y] at z; exact .inr (.inl z)
    · exact .inr (.inr z)
  · obtain ⟨q, u, g1, g2, g3, g4, g5, g6⟩ := k.box i b m z
    have ne : q ≠ p := fun y => by subst y; rw [hp] at g5; cases g5
    exact ⟨q, u, g1, g2, g3, g4, by rw [show (e.keep p o).P = upd e.P p o from rfl, upd_ne ne] at g5; exact g5, g6⟩
  · obtain ⟨g1, g2, g3⟩ := k.gh i G z
    refine ⟨g1.move (Sub.refl F) (fun q w u x => x) (fun q w => (g1.fr q w).1) fun q w => ⟨?_, (g1.fr q w).2.2.1⟩, g2, g3⟩
    have g5 := (g1.fr q w).2.1
    have ne : q ≠ p := fun y => by subst y; rw [hp] at g5; cases g5
    rw [show (e.keep p o).P = upd e.P p o from rfl, upd_ne ne] at g5
    exact g5
  · obtain ⟨q, u, g1, _, _, _, g5, _⟩ := k.box i b m z
    rw [y] at g1; cases g1
    rw [hp] at g5; cases g5
  · have g5 := ((k.gh i G z).1.fr p w).2.1
    rw [hp] at g5; cases g5
/-- what is kept is changed -/
theorem Ok.rekeep {p : Addr} {o o' : HO} (k : Ok K (e.keep p o) F r s H) (hP : e.P p = none) (hF0 : e.F0 p = none) (hnt : ∀ xs, o ≠ .tup xs := by first | (intro _ z; cases z) | (intro _ z; have z' : HO.ext _ = HO.tup _ := z; cases z')) : Ok K (e.keep p o') F r s (upd H p o') := by
  obtain ⟨k1, g1, g2, g3⟩ := k.unkeep hP hF0 hnt
  have k2 : Ok K e F r s (upd H p o') := by
    refine ⟨k1.len, fun a u q => ?_, k1.f0, fun a u q => ?_, k1.new, fun a z => ?_, k1.slot, fun i b m z => ?_, k1.ob, k1.sep, k1.adr, fun i G z => ?_, k1.gpF⟩
    · rw [upd_ne (ne_of_none q g2)]; exact k1.sub a u q
    · rw [upd_ne (ne_of_none q hP)]; exact k1.prot a u q
    · by_cases y : a = p
      · subst y; rw [upd_same]; simp
      · rw [upd_ne y]; exact k1.dom a z
    · obtain ⟨q, u, w1, w2, w3⟩ := k1.box i b m z
      have ne : q ≠ p := fun y => by subst y; exact g3.1 i b m z w1
      exact ⟨q, u, w1, by rw [upd_ne ne]; exact w2, w3⟩
    · obtain ⟨y1, y2, y3⟩ := k1.gh i G z
      refine ⟨y1.move (Sub.refl F) (fun q w u x => ?_) (fun q w => (y1.fr q w).1) fun q w => ⟨(y1.fr q w).2.1, (y1.fr q w).2.2.1⟩, y2, y3⟩
      rw [upd_ne (fun t => by subst t; exact g3.2 i G z w)]; exact x
  exact k2.keep upd_same g2 g3
end
def lcM (vs : List Nat) (g : GT) (tt : MT) (te : ME) (P : List D → Rho → Prop) : List D → List D → Rho → Prop
  | [], acc, r => P acc r
  | d :: ds, acc, r => onS (g d r) fun r1 => tt r1 fun b r2 => brK b (te r2 fun x r3 => onP (hold r3 x.tmp) fun qa qb => Rq (acc.length < sizeLine) (strict (wipeR qb vs) fun r4 => lcM vs g tt te P ds (acc ++ [qa]) r4)) (strict (wipeR r2 vs) fun r4 => lcM vs g tt te P ds acc r4)
/-- a comprehension: here a proof speaks -/
structure Lc (vs : List Nat) (g : GT) (tt : MT) (te : ME) (P : List D → Rho → Prop) (ds acc : List D) (r : Rho) : Prop where
  h : lcM vs g tt te P ds acc r
def mLc (vs : List Nat) (mi : MI) (g : GT) (tt : MT) (te : ME) : ME := fun r P => mi r fun ds r1 => rqB (noBox r1 vs) (strict (wipeR r1 vs) fun r0 => Lc vs g tt te (fun acc r2 => strict (backR r2 r1 vs) fun r3 => P (.own (.L acc)) r3) ds [] r0)
def bYes : MT := fun r P => P true r
def DTs (X : Cx) (ifs : List Expr) (m : MT) : Prop := ∀ e, PTs X ifs (TB X.K e m)
theorem PTs.imp {X : Cx} {a : List Expr} {t u : TT} (h : PTs X a t) (i : ∀ s H Q, u s H Q → t s H Q) : PTs X a u := ⟨fun pins s σ H Q I q => h.run pins s σ H Q I (i _ _ _ q)⟩
section
variable {X : Cx} {elt tg iter c : Expr} {ifs : List Expr} {scope : Scope} {own : List (Str × Nat)} {pos : Pos} {mi : MI} {g : GT} {tt : MT} {te : ME} {vs : List Nat}
theorem dts_nil : DTs X [] bYes := fun e => PTs.imp pts_nil fun s H Q ⟨F, r, k, P, hm, hP⟩ => hP _ r F H hm k (Sub.refl F)
theorem lc_read {e : En} (hvs : vs = own.map (·.2)) {s : L2.St} {H : Hp} {Q : VK} (h : T X.K e (mLc vs mi g tt te) s H Q) :
    ∀ (tg' : TG) (tt' : TT) (te' : TE), (∀ e', ∀ v s H Q, TGt X.K e' vs g v s H Q → tg' v s H Q) → (∀ e', ∀ s H Q, TB X.K e' tt s H Q → tt' s H Q) → (∀ e', ∀ s H Q, Tt X.K e' (mTmp te) s H Q → te' s H Q) → tLc (TIt X.K e mi) tg' tt' te' (own.map (·.2)) s H Q := by
  intro tg' tt' te' i1 i2 i3
  rw [← hvs]
  obtain ⟨F, r, k, P, hm, hP⟩ := h
  refine ⟨F, r, k, _, hm, fun ds r1 F1 H1 J hx k1 q1 ok p hp => ?_⟩
  obtain ⟨nb, hx2⟩ := rqB.ex hx
  have hl := hx2.ex.h
  clear hx hx2
  have fr := k1.free hp
  have hF0 : e.F0 p = none := by
    cases q : e.F0 p with
    | none => rfl
    | some u => rw [k1.f0 p u q] at fr; cases fr.1
  have nb1 := k1.nobox hp
  refine ⟨fun i m H => ∃ F r xs acc, Ok X.K (e.keep p (.lst xs)) F r (wipe s vs) H ∧ Sub F1 F ∧ RpA X.K F xs acc ∧ i ≤ ds.length ∧ m = ds.length - i ∧ lcM vs g tt te (fun acc r2 => strict (backR r2 r1 vs) fun r3 => P (.own (.L acc)) r3) (ds.drop i) acc r, ?_, ?_⟩
  · have kw : Ok X.K e F1 (wipeR r1 vs) (wipe s vs) (upd H1 p (.lst [])) := (k1.wipe vs).alloc hp
    exact ⟨_, F1, _, [], [], kw.keep upd_same fr.1 ((k1.wipe vs).nobox hp), Sub.refl _, .nil, Nat.zero_le _, rfl, by rw [List.drop_zero]; exact hl⟩
  · rintro i m H2 ⟨F2, r2, xs, acc, k2, q2, ra, hi, rfl, hl2⟩
    by_cases hn : i < ds.length
    · refine .inr ⟨ok.go i H2 (q2.trans k2.sub) hn, fun H => ∃ F r xs acc, Ok X.K (e.keep p (.lst xs)) F r (wipe s vs) H ∧ Sub F1 F ∧ RpA X.K F xs acc ∧ lcM vs g tt te (fun acc r2 => strict (backR r2 r1 vs) fun r3 => P (.own (.L acc)) r3) (ds.drop (i + 1)) acc r, fun H3 ⟨F3, r3, xs3, acc3, k3, q3, ra3, hl3⟩ => ⟨_, by omega, F3, r3, xs3, acc3, k3, q3, ra3, hn, rfl, hl3⟩, fun x H3 hy => ?_⟩
      obtain ⟨d, ed, F3, k3, q3, rp⟩ := ok.yld i H2 x H3 hy _ F2 r2 _ k2 q2 hn
      rw [drop_cons ed] at hl2
      obtain ⟨r4, eg, hb4⟩ := onS.ex hl2
      refine i1 _ _ _ _ _ ⟨F3, r2, d, r4, k3, rp, eg, fun s5 F5 H5 k5 q5 w5 => ⟨w5.trans ?_, i2 _ _ _ _ ⟨F5, r4, k5, _, hb4, fun b r6 F6 H6 hb6 k6 q6 => ?_⟩⟩⟩
      · apply List.ext_getElem?
        intro j
        rw [wipe_get, wipe_get, wipe_length]
        split <;> rfl
      · have ww : wipe s5 vs = wipe s vs := w5.trans (by
          apply List.ext_getElem?
          intro j
          rw [wipe_get, wipe_get, wipe_length]
          split <;> rfl)
        have q16 : Sub F1 F6 := ((q2.trans q3).trans q5).trans q6
        have q26 : Sub F2 F6 := (q3.trans q5).trans q6
        cases b with
        | false =>
          have hb6 := strict.ex hb6
          refine iteF ?_
          refine ⟨F6, _, xs, acc, ?_, q16, ra.mono q26, hb6⟩
          rw [← ww]
          exact k6.wipe vs
        | true =>
          refine iteT ?_
          refine i3 _ _ _ _ ⟨F6, r6, k6, fun x r3 => onP (hold r3 x) fun qa qb => Rq (acc.length < sizeLine) (strict (wipeR qb vs) fun r4 => lcM vs g tt te (fun acc r2 => strict (backR r2 r1 vs) fun r3 => P (.own (.L acc)) r3) (ds.drop (i + 1)) (acc ++ [qa]) r4), hb6, fun y r7 v7 F7 H7 hx7 k7 q7 t7 => ?_⟩
          obtain ⟨d', r8, eh, hx8⟩ := onP.ex hx7
          have hz := Rq.c hx8
          have hl8 := (Rq.a hx8).ex
          obtain ⟨F8, k8, q8, rp8⟩ := t7.hold k7 eh
          obtain ⟨_, g1, _, _⟩ := k8.unkeep fr.2.1 hF0
          have q28 : Sub F2 F8 := (q26.trans q7).trans q8
          refine ⟨xs, g1, by rw [ra.length]; exact hz, F8, _, xs ++ [v7], acc ++ [d'], ?_, (q16.trans q7).trans q8, (ra.mono q28).append (.cons rp8 .nil), hl8⟩
          rw [← ww]
          exact (k8.rekeep fr.2.1 hF0).wipe vs
    · have e0 : i = ds.length := by omega
      subst e0
      rw [List.drop_length] at hl2
      obtain ⟨k3, g1, g2, g3⟩ := k2.unkeep fr.2.1 hF0
      have kb := k1.back nb k3 q2
      refine .inl ⟨ok.stop _ H2 (q2.trans k2.sub) (Nat.le_refl _), hP _ _ _ F2 H2 (strict.ex hl2) kb (q1.trans q2) (.own g1 (.L ra) g2 fr.2.1 fr.2.2 (nb_back (k2.len.trans (wipe_length s vs)) nb g3))⟩
theorem de_lc (hc : X.calm = true) (hN : X.N.Nodup) (hi : DI X tg iter mi) (ok : BlkOk X.N X.env.scope scope own)
    (hg : ∀ (s : Shared) (H : Hp) (C : Addr) (cl : List (Str × Addr)) (fp : List Addr), DG (X.blk s H scope (compEnvC scope cl C X.env) fp) tg (own.map (·.2)) g) (ht : ∀ (s : Shared) (H : Hp) (C : Addr) (cl : List (Str × Addr)) (fp : List Addr), DTs (X.blk s H scope (compEnvC scope cl C X.env) fp) ifs tt)
    (he : ∀ (s : Shared) (H : Hp) (C : Addr) (cl : List (Str × Addr)) (fp : List Addr), DE (X.blk s H scope (compEnvC scope cl C X.env) fp) elt te) (hs : ∀ x, foldedSetIterable iter X.env x = pure x := by intro _; rfl) :
    DE X (.ListComp elt [⟨tg, iter, ifs, 0⟩] scope pos) (mLc (own.map (·.2)) mi g tt te) := fun e => by
  refine PE.imp (pe_lc (g := fun v s H Q => ∃ e', TGt X.K e' (own.map (·.2)) g v s H Q) (tt := fun s H Q => ∃ e', TB X.K e' tt s H Q) (te := fun s H Q => ∃ e', Tt X.K e' (mTmp te) s H Q) hc hN (hi e) ok
    (fun s H C cl fp => ⟨fun pins s σ H v u Q I r ⟨e', q⟩ => (hg _ _ C cl fp e').run pins s σ H v u Q I r q⟩) (fun s H C cl fp => ⟨fun pins s σ H Q I ⟨e', q⟩ => (ht _ _ C cl fp e').run pins s σ H Q I q⟩) (fun s H C cl fp => ⟨fun pins s σ H Q I ⟨e', q⟩ => ((he _ _ C cl fp).tmp e').run pins s σ H Q I q⟩) hs) ?_
  exact fun s H Q h => lc_read rfl h _ _ _ (fun e' _ _ _ _ q => ⟨e', q⟩) (fun e' _ _ _ q => ⟨e', q⟩) fun e' _ _ _ q => ⟨e', q⟩
end
end DL
namespace DL
open PySem L2 PyProof.Rows
/-- an argument -/
inductive Ar where
  | val (d : D) | box (m : MB) | ob (o : Ob) | adr (n : Nat) (a : Addr) | gh (G : Gh)
abbrev Ar.scr (ns : List Int) : Ar := .ob (.scr ns)
/-- a contract: the arguments; what is wanted of the answer and of the arguments behind -/
abbrev Ct := List Ar → (R → List Ar → Prop) → Prop
inductive ArOk (K : Fg) (F H : Hp) : Ar → V → Prop
  | val {v : V} {d : D} : Rp K F v d → ArOk K F H (.val d) v
  | box {p : Addr} {o : HO} {m : MB} : H p = some o → MO K F o m → F p = none → ArOk K F H (.box m) (.ref p)
  | ob {v : V} {o : Ob} : ObOk K F v o → ArOk K F H (.ob o) v
  | adr {n : Nat} {a : Addr} : ArOk K F H (.adr n a) (.ref a)
/-- nodes that are handed in, and told behind -/
structure GhArg (K : Fg) (F H : Hp) (G : Gh) : Prop where
  nd : (fp G).Nodup
  at' : ∀ x ∈ G, NdOk K F H x
  fr : ∀ p ∈ fp G, F p = none ∧ H p ≠ none
inductive ArsOk (K : Fg) (F H : Hp) : List Ar → List V → Prop
  | nil : ArsOk K F H [] []
  | gh {G : Gh} : GhArg K F H G → ArsOk K F H [.gh G] []
  | cons {a : Ar} {v : V} {as : List Ar} {vs : List V} : ArOk K F H a v → ArsOk K F H as vs → ArsOk K F H (a :: as) (v :: vs)
/-- p is the address of a box among the arguments -/
def IsBox (as : List Ar) (vs : List V) (p : Addr) : Prop := ∃ (i : Nat) (m : MB), as[i]? = some (.box m) ∧ vs[i]? = some (.ref p)
/-- p is a node's among the arguments -/
def IsGh (as : List Ar) (p : Addr) : Prop := ∃ (i : Nat) (G : Gh), as[i]? = some (.gh G) ∧ p ∈ fp G
/-- no two boxes are one, no box is a node -/
def Apart (as : List Ar) (vs : List V) : Prop := (∀ (i : Nat) p m, as[i]? = some (Ar.box m) → vs[i]? = some (V.ref p) → ¬ IsGh as p) ∧ ∀ (i j : Nat) p m m', as[i]? = some (Ar.box m) → as[j]? = some (Ar.box m') → vs[i]? = some (V.ref p) → vs[j]? = some (V.ref p) → i = j
theorem ArsOk.get {K : Fg} {F H : Hp} : ∀ {as : List Ar} {vs : List V} {i : Nat} {a : Ar}, ArsOk K F H as vs → as[i]? = some a → (∀ G, a ≠ .gh G) → ∃ v, vs[i]? = some v ∧ ArOk K F H a v
  | _, _, _, _, .nil, e, _ => by simp at e
  | _, _, 0, _, .gh _, e, n => by simp at e; subst e; exact absurd rfl (n _)
  | _, _, _ + 1, _, .gh _, e, _ => by simp at e
  | _, _, 0, _, .cons h _, e, _ => by simp at e; subst e; exact ⟨_, rfl, h⟩
  | _, _, i + 1, a, .cons _ r, e, n => by
    obtain ⟨v, e1, h⟩ := ArsOk.get (i := i) (a := a) r (by simpa using e) n
    exact ⟨v, by simpa using e1, h⟩
theorem ArsOk.ghAt {K : Fg} {F H : Hp} : ∀ {as : List Ar} {vs : List V} {i : Nat} {G : Gh}, ArsOk K F H as vs → as[i]? = some (.gh G) → i = vs.length ∧ GhArg K F H G
  | _, _, _, _, .nil, e => by simp at e
  | _, _, 0, _, .gh h, e => by simp at e; subst e; exact ⟨rfl, h⟩
  | _, _, _ + 1, _, .gh _, e => by simp at e
  | _, _, 0, _, .cons h _, e => by simp at e; subst e; cases h
  | _, _, i + 1, G, .cons _ r, e => by
    obtain ⟨e1, h⟩ := ArsOk.ghAt (i := i) (G := G) r (by simpa using e)
    exact ⟨by rw [e1, List.length_cons], h⟩
theorem ArsOk.length {K : Fg} {F H : Hp} : ∀ {as : List Ar} {vs : List V}, ArsOk K F H as vs → vs.length ≤ as.length
  | _, _, .nil => Nat.le_refl _
  | _, _, .gh _ => Nat.zero_le _
  | _, _, .cons _ r => by rw [List.length_cons, List.length_cons]; exact Nat.succ_le_succ (ArsOk.length r)
/-- the answer of a call: what stood at its entry is H -/
inductive ReOk (K : Fg) (F' H H' : Hp) : R → V → Prop
  | val {v : V} {d : D} : Rp K F' v d → ReOk K F' H H' (.val d) v
  | own {p : Addr} {o : HO} {m : MB} : H p = none → H' p = some o → MO K F' o m → F' p = none → ReOk K F' H H' (.own m) (.ref p)
  | adr {n : Nat} {a : Addr} : ReOk K F' H H' (.adr n a) (.ref a)
/-- what a call has done -/
structure Did (K : Fg) (F H : Hp) (as : List Ar) (vs : List V) (F' H' : Hp) (as' : List Ar) : Prop where
  sub : Sub F F'
  subH : Sub F' H'
  new : ∀ a o, F' a = some o → F a = some o ∨ H a = none ∨ IsGh as a ∨ ∃ xs, o = .tup xs
  keep : ∀ a o, H a = some o → ¬ IsBox as vs a → ¬ IsGh as a → H' a = some o
  dom : ∀ a, H a ≠ none → H' a ≠ none
  len : as'.length = as.length
  box : ∀ (i : Nat) m p, as[i]? = some (.box m) → vs[i]? = some (.ref p) → ∃ m' o, as'[i]? = some (.box m') ∧ H' p = some o ∧ MO K F' o m' ∧ F' p = none
  gh : ∀ (i : Nat) G, as[i]? = some (.gh G) → ∃ G', as'[i]? = some (.gh G') ∧ GhArg K F' H' G' ∧ (∀ p ∈ fp G', p ∈ fp G ∨ H p = none) ∧ ∀ (j : Nat) m p, as[j]? = some (.box m) → vs[j]? = some (.ref p) → p ∉ fp G'
  gpF : ∀ p, IsGh as p → True
def spD (K : Fg) (n : Nat) (c : Ct) : Sp := fun vs H Q _ => ∃ F as, vs.length = n ∧ Sub F H ∧ ArsOk K F H as vs ∧ Apart as vs ∧ ∃ P, c as P ∧ ∀ x as' v F' H', P x as' → Did K F H as vs F' H' as' → ReOk K F' H H' x v → Q v H'
structure FnD (P : Program) (w : World) (K : Fg) (mg : Str → Option Value) (base : Heap) (k : Nat) (f : Addr) (fd : FuncData) (ps : List Str) (c : Ct) : Prop where
  run : ∀ (A : Around) (outer : List Env) (s : Shared) (H : Hp) (args : Args) (us : List Value) (vs : List V) (Q : VK) (E : XK), Rm k A → A.guards = some [] → Env0 P w K mg base A outer s H → BindsTo s fd args (ps.zip us) → Vals vs us → spD K ps.length c vs H Q E →
    codeAny (model P w) A (.call (.ref f) args) (CR CX0 outer P w H s Q E) s
theorem FnD.mono {P : Program} {w : World} {K : Fg} {mg : Str → Option Value} {base : Heap} {j k : Nat} {f : Addr} {fd : FuncData} {ps : List Str} {c : Ct} (F : FnD P w K mg base j f fd ps c) (h : j ≤ k) : FnD P w K mg base k f fd ps c :=
  ⟨fun A outer s H args us vs Q E hr => F.run A outer s H args us vs Q E (hr.mono h)⟩
/-- a stronger contract -/
theorem FnD.imp {P : Program} {w : World} {K : Fg} {mg : Str → Option Value} {base : Heap} {k : Nat} {f : Addr} {fd : FuncData} {ps : List Str} {c c' : Ct} (F : FnD P w K mg base k f fd ps c) (h : ∀ as P, c' as P → c as P) : FnD P w K mg base k f fd ps c' :=
  ⟨fun A outer s H args us vs Q E hr hg he hb hv ⟨G, as, h1, h2, h3, h4, P, h5, h6⟩ => F.run A outer s H args us vs Q E hr hg he hb hv ⟨G, as, h1, h2, h3, h4, P, h _ _ h5, h6⟩⟩
def cellOf : Ar → Ce
  | .val d => .val d
  | .box m => .box true m
  | .ob ns => .ob ns
  | .adr n a => .adr n a
  | .gh G => .gh G
def startR (n : Nat) (as : List Ar) : Rho := as.map (fun a => some (cellOf a)) ++ List.replicate (n - as.length) none
open Classical in
noncomputable def enOf (F H : Hp) (as : List Ar) (vs : List V) : En := ⟨F, fun a => if IsBox as vs a ∨ IsGh as a then none else H a, fun a => H a ≠ none, fun i => match as[i]?, vs[i]? with
  | some (.box _), some (.ref p) => some p
  | _, _ => none, fun a => IsGh as a⟩
theorem startR_get {n : Nat} {as : List Ar} {i : Nat} {c : Ce} (h : (startR n as)[i]? = some (some c)) : ∃ a, as[i]? = some a ∧ c = cellOf a := by
  unfold startR at h
  by_cases hi : i < as.length
  · rw [List.getElem?_append_left (by simpa using hi), List.getElem?_map, List.getElem?_eq_getElem hi] at h
    exact ⟨_, List.getElem?_eq_getElem hi, (Option.some.inj (Option.some.inj h)).symm⟩
  · rw [List.getElem?_append_right (by simpa using hi), List.getElem?_replicate] at h
    split at h <;> cases h
theorem start_get {N : List Str} {vs : List V} {i : Nat} {v : V} (h : vs[i]? = some v) : (start N vs)[i]? = some (some v) := by
  unfold L2.start
  have hi := (List.getElem?_eq_some_iff.mp h).1
  rw [List.getElem?_append_left (by simpa using hi), List.getElem?_map, h]
  rfl
theorem start_of {N : List Str} {vs : List V} {i : Nat} {v : V} (h : (start N vs)[i]? = some (some v)) : vs[i]? = some v := by
  unfold L2.start at h
  by_cases hi : i < vs.length
  · rw [List.getElem?_append_left (by simpa using hi), List.getElem?_map] at h
    cases q : vs[i]? with
    | none => rw [q] at h; cases h
    | some u => rw [q] at h; cases h; rfl
  · rw [List.getElem?_append_right (by simpa using hi), List.getElem?_replicate] at h
    split at h <;> cases h
section
variable {K : Fg} {F H : Hp} {as : List Ar} {vs : List V} {N : List Str}
theorem Ok.start (hn : as.length ≤ N.length) (hs : Sub F H) (ha : ArsOk K F H as vs) (hp : Apart as vs) : Ok K (enOf F H as vs) F (startR N.length as) (L2.start N vs) H where
  len := by
    unfold startR L2.start
    rw [List.length_append, List.length_append, List.length_map, List.length_map, List.length_replicate, List.length_replicate]
    have := ha.length
    omega
  sub := hs
  f0 := Sub.refl F
  prot := fun a o q => by
    simp only [enOf] at q
    split at q
    · cases q
    · exact q
  new := fun a o q => .inl q
  dom := fun a z => z
  slot := fun i d z => by
    obtain ⟨a, e1, e2⟩ := startR_get z
    cases a with
    | val d' =>
      cases e2
      obtain ⟨v, g1, g2⟩ := ha.get e1 (by intro _ q; cases q)
      cases g2 with | val rp => exact ⟨v, start_get g1, rp⟩
    | box m => cases e2
    | ob ns => cases e2
    | adr n a => cases e2
    | gh G => cases e2
  box := fun i b m z => by
    obtain ⟨a, e1, e2⟩ := startR_get z
    cases a with
    | val d' => cases e2
    | ob ns => cases e2
    | adr n a => cases e2
    | gh G => cases e2
    | box m' =>
      cases e2
      obtain ⟨v, g1, g2⟩ := ha.get e1 (by intro _ q; cases q)
      cases g2 with
      | @box p o _ h1 h2 h3 =>
        refine ⟨p, o, start_get g1, h1, h2, h3, if_pos (.inl ⟨i, _, e1, g1⟩), fun z => Bool.noConfusion z, fun _ => ?_⟩
        simp only [enOf, e1, g1]
  ob := fun i ns z => by
    obtain ⟨a, e1, e2⟩ := startR_get z
    cases a with
    | val d' => cases e2
    | box m => cases e2
    | adr n a => cases e2
    | gh G => cases e2
    | ob ns' =>
      cases e2
      obtain ⟨v, g1, g2⟩ := ha.get e1 (by intro _ q; cases q)
      cases g2 with | ob h => exact ⟨_, start_get g1, h⟩
  sep := fun i j p b m b' m' z1 z2 w1 w2 => by
    obtain ⟨a, e1, e2⟩ := startR_get z1
    obtain ⟨a', e3, e4⟩ := startR_get z2
    cases a with
    | val d' => cases e2
    | ob ns => cases e2
    | adr n a => cases e2
    | gh G => cases e2
    | box m1 =>
      cases a' with
      | val d' => cases e4
      | ob ns => cases e4
      | adr n a => cases e4
      | gh G => cases e4
      | box m2 => exact hp.2 i j p _ _ e1 e3 (start_of w1) (start_of w2)
  adr := fun i n a z => by
    obtain ⟨x, e1, e2⟩ := startR_get z
    cases x <;> cases e2
    obtain ⟨v, g1, g2⟩ := ha.get e1 (by intro _ q; cases q)
    cases g2
    exact start_get g1
  gh := fun i G z => by
    have isg : ∀ {i : Nat} {G : Gh}, (startR N.length as)[i]? = some (some (Ce.gh G)) → as[i]? = some (.gh G) := fun {i G} z => by
      obtain ⟨x, e1, e2⟩ := startR_get z
      cases x <;> cases e2
      exact e1
    have e1 := isg z
    obtain ⟨e3, g⟩ := ha.ghAt e1
    refine ⟨⟨g.nd, g.at', fun p hp => ⟨(g.fr p hp).1, if_pos (.inr ⟨i, G, e1, hp⟩), fun _ => ⟨i, G, e1, hp⟩, (g.fr p hp).2⟩⟩, fun j b m p z2 w hp' => ?_, fun j G' z2 => ?_⟩
    · obtain ⟨x, e4, e5⟩ := startR_get z2
      cases x <;> cases e5
      exact hp.1 j p m e4 (start_of w) ⟨i, G, e1, hp'⟩
    · exact (ha.ghAt (isg z2)).1.trans e3.symm
  gpF := fun p ⟨i, G, e1, hp⟩ => ⟨trivial, ((ha.ghAt e1).2.fr p hp).2⟩
end
def retOf (r : Rho) : R → Option R
  | .val d => some (.val d)
  | .own m => some (.own m)
  | .bor i => match r[i]? with
    | some (some (.box false m)) => some (.own m)
    | _ => none
  | .ob _ => none
  | .adr n a => some (.adr n a)
/-- the arguments behind: the boxes and nodes as they are now -/
def endArs : Nat → List Ar → Rho → Option (List Ar)
  | _, [], _ => some []
  | i, .box _ :: as, r => match r[i]?, endArs (i + 1) as r with
    | some (some (.box true m)), some as' => some (.box m :: as')
    | _, _ => none
  | i, .gh _ :: as, r => match r[i]?, endArs (i + 1) as r with
    | some (some (.gh G)), some as' => some (.gh G :: as')
    | _, _ => none
  | i, a :: as, r => (endArs (i + 1) as r).map (a :: ·)
def EndOk (j : Nat) (as as' : List Ar) (r : Rho) : Prop := as'.length = as.length ∧ (∀ (i : Nat) m, as[i]? = some (Ar.box m) → ∃ m', as'[i]? = some (.box m') ∧ r[j + i]? = some (some (.box true m'))) ∧ ∀ (i : Nat) G, as[i]? = some (Ar.gh G) → ∃ G', as'[i]? = some (.gh G') ∧ r[j + i]? = some (some (.gh G'))
theorem EndOk.cons {j : Nat} {a a' : Ar} {as as' : List Ar} {r : Rho} (h : EndOk (j + 1) as as' r) (hb : ∀ m, a = .box m → ∃ m', a' = .box m' ∧ r[j]? = some (some (.box true m'))) (hg : ∀ G, a = .gh G → ∃ G', a' = .gh G' ∧ r[j]? = some (some (.gh G'))) : EndOk j (a :: as) (a' :: as') r := by
  obtain ⟨l, q, w⟩ := h
  refine ⟨by rw [List.length_cons, List.length_cons, l], fun i m z => ?_, fun i G z => ?_⟩
  · cases i with
    | zero =>
      obtain ⟨m', e1, e2⟩ := hb m (by simpa using z)
      exact ⟨m', by simp [e1], e2⟩
    | succ i =>
      obtain ⟨m', g1, g2⟩ := q i m (by simpa using z)
      exact ⟨m', by simpa using g1, by rw [← g2]; congr 1; omega⟩
  · cases i with
    | zero =>
      obtain ⟨m', e1, e2⟩ := hg G (by simpa using z)
      exact ⟨m', by simp [e1], e2⟩
    | succ i =>
      obtain ⟨m', g1, g2⟩ := w i G (by simpa using z)
      exact ⟨m', by simpa using g1, by rw [← g2]; congr 1; omega⟩
theorem endArs_get : ∀ {as as' : List Ar} {j : Nat} {r : Rho}, endArs j as r = some as' → EndOk j as as' r
  | [], as', j, r, h => by cases h; exact ⟨rfl, fun i m z => by simp at z, fun i m z => by simp at z⟩
  | .box m0 :: as, as', j, r, h => by
    simp only [endArs] at h
    split at h
    · rename_i m1 as1 e1 e2
      cases h
      exact (endArs_get e2).cons (fun m q => ⟨m1, rfl, e1⟩) (fun G q => by cases q)
    · cases h
  | .gh m0 :: as, as', j, r, h => by
    simp only [endArs] at h
    split at h
    · rename_i m1 as1 e1 e2
      cases h
      exact (endArs_get e2).cons (fun m q => by cases q) (fun G q => ⟨m1, rfl, e1⟩)
    · cases h
  | .val d :: as, as', j, r, h => by
    simp only [endArs, Option.map_eq_some_iff] at h
    obtain ⟨as1, e2, rfl⟩ := h
    exact (endArs_get e2).cons (fun m q => by cases q) (fun G q => by cases q)
  | .ob d :: as, as', j, r, h => by
    simp only [endArs, Option.map_eq_some_iff] at h
    obtain ⟨as1, e2, rfl⟩ := h
    exact (endArs_get e2).cons (fun m q => by cases q) (fun G q => by cases q)
  | .adr _ _ :: as, as', j, r, h => by
    simp only [endArs, Option.map_eq_some_iff] at h
    obtain ⟨as1, e2, rfl⟩ := h
    exact (endArs_get e2).cons (fun m q => by cases q) (fun G q => by cases q)
section
variable {K : Fg} {F H F' H' : Hp} {as as' : List Ar} {vs : List V} {r : Rho} {s : L2.St}
theorem Ok.did (hs : Sub F H) (ha : ArsOk K F H as vs) (k : Ok K (enOf F H as vs) F' r s H') (q : endArs 0 as r = some as') : Did K F H as vs F' H' as' := by
  obtain ⟨hl, hb, hg⟩ := endArs_get q
  have bx : ∀ (i : Nat) m p, as[i]? = some (Ar.box m) → vs[i]? = some (V.ref p) → ∃ m' o, as'[i]? = some (.box m') ∧ H' p = some o ∧ MO K F' o m' ∧ F' p = none := fun i m p e1 e2 => by
    obtain ⟨m', g1, g2⟩ := hb i m e1
    rw [Nat.zero_add] at g2
    obtain ⟨p', o, w1, w2, w3, w4, w5, w6, w7⟩ := k.box i true m' g2
    have e := w7 rfl
    simp only [enOf, e1, e2] at e
    cases e
    exact ⟨m', o, g1, w2, w3, w4⟩
  refine ⟨k.f0, k.sub, fun a o z => ?_, fun a o z nb ng => ?_, fun a z => k.dom a z, hl, bx, fun i G e1 => ?_, fun p hp => (k.gpF p hp).1⟩
  · rcases k.new a o z with y | y | y
    · exact .inl y
    · simp only [enOf] at y
      split at y
      · rename_i ib
        rcases ib with ⟨i, m, e1, e2⟩ | ig
        · obtain ⟨_, _, _, _, _, w⟩ := bx i m a e1 e2
          rw [w] at z; cases z
        · exact .inr (.inr (.inl ig))
      · exact .inr (.inl y)
    · exact .inr (.inr (.inr y))
  · refine k.prot a o ?_
    simp only [enOf]
    rw [if_neg (fun y => y.elim nb ng)]
    exact z
  · obtain ⟨G', g1, g2⟩ := hg i G e1
    rw [Nat.zero_add] at g2
    obtain ⟨w1, w2, w3⟩ := k.gh i G' g2
    refine ⟨G', g1, ⟨w1.nd, w1.at', fun p hp => ⟨(w1.fr p hp).1, (w1.fr p hp).2.2.2⟩⟩, fun p hp => ?_, fun j m p e3 e4 => ?_⟩
    · by_cases y : H p = none
      · exact .inr y
      · obtain ⟨i2, G2, e5, e6⟩ := (w1.fr p hp).2.2.1 y
        have := (ha.ghAt e5).1.trans (ha.ghAt e1).1.symm
        subst this
        rw [e5] at e1; cases e1
        exact .inl e6
    · obtain ⟨m', y1, y2⟩ := hb j m e3
      rw [Nat.zero_add] at y2
      obtain ⟨p', o, x1, x2, x3, x4, x5, x6, x7⟩ := k.box j true m' y2
      have e := x7 rfl
      simp only [enOf, e3, e4] at e
      cases e
      exact w2 j true m' p y2 x1
theorem RR.ret {x x' : R} {v : V} (h : RR K (enOf F H as vs) F' r s H' x v) (k : Ok K (enOf F H as vs) F' r s H') (q : retOf r x = some x') : ReOk K F' H H' x' v := by
  cases h with
  | val a => cases q; exact .val a
  | own h1 h2 h3 h4 h5 h6 =>
    cases q
    exact .own (Classical.byContradiction fun z => h5 z) h1 h2 h3
  | bor a b =>
    simp only [retOf] at q
    split at q
    · rename_i m z
      cases q
      obtain ⟨p, o, g1, g2, g3, g4, g5, g6, g7⟩ := k.box _ _ _ z
      rw [a] at g1; cases g1
      exact .own (Classical.byContradiction fun z => g6 rfl z) g2 g3 g4
    · cases q
  | ob a => cases q
  | adr => cases q; exact .adr
end
/-- what a body does, as a contract -/
def ctOf (n : Nat) (m : MS) : Ct := fun as P => rqB (Nat.ble as.length n) <| strict (startR n as) fun r => m r ⟨fun r => onO (endArs 0 as r) fun as' => P (.val .none) as', fun x r => onO (retOf r x) fun x' => onO (endArs 0 as r) fun as' => P x' as', fun _ => False, fun _ => False⟩
section
variable {P : Program} {w : World} {K : Fg} {mg : Str → Option Value} {base : Heap}
/-- THE RULE: a def by its body -/
theorem fnd_of {k : Nat} {f : Addr} {name qual : Str} {params : Arguments} {body : List Stmt} {scope : Scope} {dV kV doc pm cdv ct oc : Value} {an od : Option Addr} {osl : Array (Option Value)} {N ps : List Str} {m : MS}
    (lk : K.lookup f = some ⟨oc, od, .func (PySem.W.fnOf name qual params body scope dV kV doc pm an cdv ct), osl⟩) (hcd : PySem.W.codeIn K cdv qual = true) (S : FnScope N ps scope)
    (hbody : ∀ (A : Around) (outer : List Env) (s : Shared) (H : Hp) (E : XK), Rm k (A.deeper (envOfC qual scope s.heap.objs.size f cdv)) → A.guards = some [] → DSs (cxOf CX0 P w K mg base N qual scope f cdv A outer s H E).nox body m) :
    FnD P w K mg base (k + 1) f (PySem.W.fnOf name qual params body scope dV kV doc pm an cdv ct) ps (ctOf N.length m) := by
  refine ⟨fun A outer s H args us vs Q E hr hgu e0 hb r ⟨F, as, hl, hs, ha, hap, Pp, hc, hP⟩ => ?_⟩
  have KX : K.In s.heap := e0.mod.kin.keeps fun b o e => (e0.bs b o e).1
  have lim : s.heap.NoLimit := e0.mod.nolimit.keeps fun b o e => (e0.bs b o e).1
  have hkind : ∀ y ∈ ps.zip us, scope.names.lookup y.1 = some .local ∨ (scope.names.lookup y.1 = some .cell ∧ ((cellsFrom (s.heap.objs.size + 1) scope.names []).lookup y.1).isSome = true) := by
    rintro ⟨n, v⟩ hy
    rcases S.par n (List.of_mem_zip hy).1 with q | q
    · exact .inl q
    · exact .inr ⟨q, PySem.W.cellsFrom_some _ _ _ (.inl q)⟩
  refine codeAny_call_function hr.depth (KX _ _ lk) rfl S.co S.gen rfl (PySem.W.codeRec_of KX hcd) (hb _ _ _ _ (wpAny_newFunctionEnv_cells S.kind hkind ?_))
  rintro env rfl s1 x
  refine ⟨lim.keeps x.toInCall.keep, codeAny_func ?_⟩
  have I : L2.Inv (cxOf CX0 P w K mg base N qual scope f cdv A outer s H E) [] (L2.start N vs) H s1 := inv_start S hr.hd e0 hl r x
  obtain ⟨hn, hc⟩ := rqB.ex hc
  have ok : Ok K (enOf F H as vs) F (startR N.length as) (L2.start N vs) H := Ok.start (Nat.le_of_ble_eq_true hn) hs ha hap
  have hit : TSt K (enOf F H as vs) m { nx := fun _ H' => Q .non H', rt := Q } (L2.start N vs) H := by
    refine ⟨F, _, ok, _, hc.ex, ⟨?_, ?_, fun _ _ _ _ z => z.elim, fun _ _ _ _ z => z.elim⟩⟩
    · intro r' s' F' H' hx k' q'
      obtain ⟨as', ea, hp⟩ := onO.ex hx
      exact hP _ as' _ F' H' hp (k'.did hs ha ea) (.val .non)
    · intro y r' v s' F' H' hx k' q' t
      obtain ⟨y', er, hx2⟩ := onO.ex hx
      obtain ⟨as', ea, hp⟩ := onO.ex hx2
      exact hP _ as' _ F' H' hp (k'.did hs ha ea) (t.ret k' er)
  have run := ((hbody A outer s H E (hr.deeper _) hgu (enOf F H as vs)).nox).run [] s1 (L2.start N vs) H _ I hit
  refine wpAny_mono run (fun fl s' z => ?_) fun _ _ z => z
  cases fl with
  | ret u =>
    obtain ⟨v, σ', H', J, rv, q⟩ := z
    exact ⟨v, H', J.os, J.bare, J.base, J.hok, rv, q⟩
  | next =>
    obtain ⟨σ', H', J, q⟩ := z
    exact ⟨.non, H', J.os, J.bare, J.base, J.hok, rfl, q⟩
  | brk => obtain ⟨_, _, _, q⟩ := z; exact q.elim
  | cont => obtain ⟨_, _, _, q⟩ := z; exact q.elim
end
end DL
namespace DL
open PySem L2 PyProof.Rows
def arOf (r : Rho) : R → Option Ar
  | .val d => some (.val d)
  | .own m => some (.val m.toD)
  | .bor i => match r[i]? with
    | some (some (.box _ m)) => some (.box m)
    | _ => none
  | .ob ns => some (.ob ns)
  | .adr n a => some (.adr n a)
def arsOf (r : Rho) : List R → Option (List Ar)
  | [] => some []
  | x :: xs => match arOf r x, arsOf r xs with
    | some a, some as => some (a :: as)
    | _, _ => none
/-- the slots whose boxes are handed in -/
def borSlots : List R → List Nat
  | [] => []
  | .bor i :: xs => i :: borSlots xs
  | _ :: xs => borSlots xs
/-- no box is handed in twice -/
def once : List Nat → Bool
  | [] => true
  | i :: is => !is.contains i && once is
/-- the boxes behind the call -/
def backArs : Rho → List R → List Ar → Option Rho
  | r, [], [] => some r
  | r, .bor i :: xs, .box m :: as => match r[i]? with
    | some (some (.box b _)) => backArs (r.set i (some (.box b m))) xs as
    | _ => none
  | r, .val _ :: xs, _ :: as => backArs r xs as
  | r, .own _ :: xs, _ :: as => backArs r xs as
  | r, .ob _ :: xs, _ :: as => backArs r xs as
  | r, .adr _ _ :: xs, _ :: as => backArs r xs as
  | _, _, _ => none
/-- a call: here a proof speaks -/
structure Cl (c : Ct) (as : List Ar) (K : R → List Ar → Prop) : Prop where
  h : c as K
def mFn (c : Ct) (ms : MA) : ME := fun r P => ms r fun xs r1 => rqB (once (borSlots xs)) (onO (arsOf r1 xs) fun as => Cl c as fun x as' => onS (backArs r1 xs as') fun r2 => P x r2)
theorem borSlots_mem : ∀ {xs : List R} {j i : Nat}, xs[j]? = some (.bor i) → i ∈ borSlots xs
  | [], _, _, h => by simp at h
  | .bor i' :: xs, 0, i, h => by simp at h; subst h; exact List.mem_cons_self
  | .bor i' :: xs, j + 1, i, h => List.mem_cons_of_mem _ (borSlots_mem (by simpa using h))
  | .val _ :: xs, 0, i, h => by simp at h
  | .own _ :: xs, 0, i, h => by simp at h
  | .ob _ :: xs, 0, i, h => by simp at h
  | .adr _ _ :: xs, 0, i, h => by simp at h
  | .val _ :: xs, j + 1, i, h => borSlots_mem (xs := xs) (by simpa using h)
  | .own _ :: xs, j + 1, i, h => borSlots_mem (xs := xs) (by simpa using h)
  | .ob _ :: xs, j + 1, i, h => borSlots_mem (xs := xs) (by simpa using h)
  | .adr _ _ :: xs, j + 1, i, h => borSlots_mem (xs := xs) (by simpa using h)
theorem once_apart : ∀ {xs : List R}, once (borSlots xs) = true → ∀ {j j' i : Nat}, xs[j]? = some (.bor i) → xs[j']? = some (.bor i) → j = j'
  | [], _, _, _, _, h, _ => by simp at h
  | .bor i' :: xs, hn, j, j', i, h, h' => by
    simp only [borSlots, once, Bool.and_eq_true, Bool.not_eq_true', List.contains_eq_mem, decide_eq_false_iff_not] at hn
    cases j with
    | zero =>
      cases j' with
      | zero => rfl
      | succ j' =>
        simp at h; subst h
        exact absurd (borSlots_mem (by simpa using h')) hn.1
    | succ j =>
      cases j' with
      | zero =>
        simp at h'; subst h'
        exact absurd (borSlots_mem (by simpa using h)) hn.1
      | succ j' => exact congrArg (· + 1) (once_apart (i := i) hn.2 (by simpa using h) (by simpa using h'))
  | .val _ :: xs, hn, j, j', i, h, h' => by
    cases j with
    | zero => simp at h
    | succ j => cases j' with
      | zero => simp at h'
      | succ j' => exact congrArg (· + 1) (once_apart (xs := xs) (i := i) hn (by simpa using h) (by simpa using h'))
  | .own _ :: xs, hn, j, j', i, h, h' => by
    cases j with
    | zero => simp at h
    | succ j => cases j' with
      | zero => simp at h'
      | succ j' => exact congrArg (· + 1) (once_apart (xs := xs) (i := i) hn (by simpa using h) (by simpa using h'))
  | .ob _ :: xs, hn, j, j', i, h, h' => by
    cases j with
    | zero => simp at h
    | succ j => cases j' with
      | zero => simp at h'
      | succ j' => exact congrArg (· + 1) (once_apart (xs := xs) (i := i) hn (by simpa using h) (by simpa using h'))
  | .adr _ _ :: xs, hn, j, j', i, h, h' => by
    cases j with
    | zero => simp at h
    | succ j => cases j' with
      | zero => simp at h'
      | succ j' => exact congrArg (· + 1) (once_apart (xs := xs) (i := i) hn (by simpa using h) (by simpa using h'))
section
variable {K : Fg} {e : En} {F H : Hp} {r : Rho} {s : L2.St}
theorem RTs.get {xs : List R} {vs : List V} (t : RTs K F s xs vs) : ∀ {j : Nat} {x : R}, xs[j]? = some x → ∃ v, vs[j]? = some v ∧ RT K F s x v := by
  induction t with
  | nil => intro j x h; simp at h
  | cons a _ ih =>
    intro j x h
    cases j with
    | zero => simp at h; subst h; exact ⟨_, rfl, a⟩
    | succ j => obtain ⟨v, g1, g2⟩ := ih (by simpa using h); exact ⟨v, by simpa using g1, g2⟩
theorem RTs.ars {xs : List R} {vs : List V} {as : List Ar} (t : RTs K F s xs vs) (k : Ok K e F r s H) (q : arsOf r xs = some as) : ArsOk K F H as vs ∧ ∀ (j : Nat) m, as[j]? = some (Ar.box m) → ∃ i b, xs[j]? = some (.bor i) ∧ r[i]? = some (some (.box b m)) := by
  induction t generalizing as with
  | nil => cases q; exact ⟨.nil, fun j m z => by simp at z⟩
  | @cons x v xs vs a _ ih =>
    simp only [arsOf] at q
    split at q
    · rename_i a' as' e1 e2
      cases q
      obtain ⟨h1, h2⟩ := ih e2
      cases a with
      | val rp =>
        cases e1
        exact ⟨.cons (.val rp) h1, fun j m z => by
          cases j with
          | zero => simp at z
          | succ j => obtain ⟨i, b, g1, g2⟩ := h2 j m (by simpa using z); exact ⟨i, b, by simpa using g1, g2⟩⟩
      | ob rp =>
        cases e1
        exact ⟨.cons (.ob rp) h1, fun j m z => by
          cases j with
          | zero => simp at z
          | succ j => obtain ⟨i, b, g1, g2⟩ := h2 j m (by simpa using z); exact ⟨i, b, by simpa using g1, g2⟩⟩
      | adr =>
        cases e1
        exact ⟨.cons .adr h1, fun j m z => by
          cases j with
          | zero => simp at z
          | succ j => obtain ⟨i, b, g1, g2⟩ := h2 j m (by simpa using z); exact ⟨i, b, by simpa using g1, g2⟩⟩
      | @bor i _ g =>
        simp only [arOf] at e1
        split at e1
        · rename_i b m z
          cases e1
          obtain ⟨p, o, w1, w2, w3, w4, _⟩ := k.box _ _ _ z
          rw [g] at w1; cases w1
          exact ⟨.cons (.box w2 w3 w4) h1, fun j m' z' => by
            cases j with
            | zero => simp at z'; subst z'; exact ⟨i, b, rfl, z⟩
            | succ j => obtain ⟨i', b', g1, g2⟩ := h2 j m' (by simpa using z'); exact ⟨i', b', by simpa using g1, g2⟩⟩
        · cases e1
    · cases q
/-- the cells behind a call -/
theorem backArs_get : ∀ {xs : List R} {as' : List Ar} {r r2 : Rho}, once (borSlots xs) = true → backArs r xs as' = some r2 → r2.length = r.length ∧ (∀ i, i ∉ borSlots xs → r2[i]? = r[i]?) ∧
    (∀ (j i : Nat), xs[j]? = some (.bor i) → ∃ b m m', r[i]? = some (some (.box b m)) ∧ as'[j]? = some (.box m') ∧ r2[i]? = some (some (.box b m')))
  | [], as', r, r2, _, h => by
    cases as' with
    | nil => cases h; exact ⟨rfl, fun _ _ => rfl, fun j i z => by simp at z⟩
    | cons => cases h
  | .bor i :: xs, as', r, r2, hn, h => by
    cases as' with
    | nil => cases h
    | cons a as' =>
      cases a with
      | val => cases h
      | ob => cases h
      | adr => cases h
      | gh => cases h
      | box m' =>
        simp only [backArs] at h
        split at h
        · rename_i b m z
          simp only [borSlots, once, Bool.and_eq_true, Bool.not_eq_true', List.contains_eq_mem, decide_eq_false_iff_not] at hn
          obtain ⟨l, g1, g2⟩ := backArs_get hn.2 h
          have hi : i < r.length := (List.getElem?_eq_some_iff.mp z).1
          refine ⟨by rw [l, List.length_set], fun i' hi' => ?_, fun j i' e => ?_⟩
          · simp only [borSlots, List.mem_cons, not_or] at hi'
            rw [g1 i' hi'.2, List.getElem?_set_ne (Ne.symm hi'.1)]
          · cases j with
            | zero =>
              simp at e; subst e
              exact ⟨b, m, m', z, rfl, by rw [g1 i hn.1, List.getElem?_set_self hi]⟩
            | succ j =>
              obtain ⟨b1, m1, m1', w1, w2, w3⟩ := g2 j i' (by simpa using e)
              have ne : i ≠ i' := fun q => by subst q; exact hn.1 (borSlots_mem (by simpa using e))
              rw [List.getElem?_set_ne ne] at w1
              exact ⟨b1, m1, m1', w1, by simpa using w2, w3⟩
        · cases h
  | .val _ :: xs, as', r, r2, hn, h => by
    cases as' with
    | nil => cases h
    | cons a as' =>
      obtain ⟨l, g1, g2⟩ := backArs_get (xs := xs) hn (by simpa only [backArs] using h)
      exact ⟨l, g1, fun j i' e => by
        cases j with
        | zero => simp at e
        | succ j => obtain ⟨b1, m1, m1', w1, w2, w3⟩ := g2 j i' (by simpa using e); exact ⟨b1, m1, m1', w1, by simpa using w2, w3⟩⟩
  | .own _ :: xs, as', r, r2, hn, h => by
    cases as' with
    | nil => cases h
    | cons a as' =>
      obtain ⟨l, g1, g2⟩ := backArs_get (xs := xs) hn (by simpa only [backArs] using h)
      exact ⟨l, g1, fun j i' e => by
        cases j with
        | zero => simp at e
        | succ j => obtain ⟨b1, m1, m1', w1, w2, w3⟩ := g2 j i' (by simpa using e); exact ⟨b1, m1, m1', w1, by simpa using w2, w3⟩⟩
  | .ob _ :: xs, as', r, r2, hn, h => by
    cases as' with
    | nil => cases h
    | cons a as' =>
      obtain ⟨l, g1, g2⟩ := backArs_get (xs := xs) hn (by simpa only [backArs] using h)
      exact ⟨l, g1, fun j i' e => by
        cases j with
        | zero => simp at e
        | succ j => obtain ⟨b1, m1, m1', w1, w2, w3⟩ := g2 j i' (by simpa using e); exact ⟨b1, m1, m1', w1, by simpa using w2, w3⟩⟩
  | .adr _ _ :: xs, as', r, r2, hn, h => by
    cases as' with
    | nil => cases h
    | cons a as' =>
      obtain ⟨l, g1, g2⟩ := backArs_get (xs := xs) hn (by simpa only [backArs] using h)
      exact ⟨l, g1, fun j i' e => by
        cases j with
        | zero => simp at e
        | succ j => obtain ⟨b1, m1, m1', w1, w2, w3⟩ := g2 j i' (by simpa using e); exact ⟨b1, m1, m1', w1, by simpa using w2, w3⟩⟩
theorem borSlots_ix : ∀ {xs : List R} {i : Nat}, i ∈ borSlots xs → ∃ j : Nat, xs[j]? = some (R.bor i)
  | [], _, h => by simp [borSlots] at h
  | .bor i' :: xs, i, h => by
    rcases List.mem_cons.mp h with rfl | h
    · exact ⟨0, rfl⟩
    · obtain ⟨j, q⟩ := borSlots_ix h; exact ⟨j + 1, by simpa using q⟩
  | .val _ :: xs, i, h => by obtain ⟨j, q⟩ := borSlots_ix (xs := xs) h; exact ⟨j + 1, by simpa using q⟩
  | .own _ :: xs, i, h => by obtain ⟨j, q⟩ := borSlots_ix (xs := xs) h; exact ⟨j + 1, by simpa using q⟩
  | .ob _ :: xs, i, h => by obtain ⟨j, q⟩ := borSlots_ix (xs := xs) h; exact ⟨j + 1, by simpa using q⟩
  | .adr _ _ :: xs, i, h => by obtain ⟨j, q⟩ := borSlots_ix (xs := xs) h; exact ⟨j + 1, by simpa using q⟩
theorem arsOf_nogh {r : Rho} : ∀ {xs : List R} {as : List Ar}, arsOf r xs = some as → ∀ (j : Nat) G, as[j]? ≠ some (.gh G)
  | [], as, h => by cases h; intro j G z; simp at z
  | x :: xs, as, h => by
    simp only [arsOf] at h
    split at h
    · rename_i a1 as1 f1 f2
      cases h
      intro j G z
      cases j with
      | zero =>
        simp at z; subst z
        cases x with
        | bor i =>
          simp only [arOf] at f1
          split at f1 <;> cases f1
        | _ => cases f1
      | succ j => exact arsOf_nogh f2 j G (by simpa using z)
    · cases h
theorem call_okG {xs : List R} {vs : List V} {as as0 as' as1 : List Ar} {F' H' : Hp} {r2 : Rho} (t : RTs K F s xs vs) (k : Ok K e F r s H) (ho : once (borSlots xs) = true) (q : arsOf r xs = some as0) (d : Did K F H as vs F' H' as') (qb : backArs r xs as1 = some r2)
    (x0 : ∀ (j : Nat) m, as[j]? = some (Ar.box m) ↔ as0[j]? = some (Ar.box m)) (x1 : ∀ (j : Nat) m, as1[j]? = some (Ar.box m) → as'[j]? = some (Ar.box m)) (hg : ∀ p, IsGh as p → e.P p = none ∧ NB r s p) :
    Ok K e F' r2 s H' := by
  obtain ⟨ha, hb⟩ := t.ars k q
  obtain ⟨hl, g1, g2⟩ := backArs_get ho qb
  -- a box of r2 is a box of r
  have bx : ∀ (i : Nat) b m, r2[i]? = some (some (Ce.box b m)) → ∃ m0, r[i]? = some (some (Ce.box b m0)) := fun i b m z => by
    by_cases hi : i ∈ borSlots xs
    · obtain ⟨j, ej⟩ := borSlots_ix hi
      obtain ⟨b1, m1, m1', w1, w2, w3⟩ := g2 j i ej
      rw [w3] at z
      cases z
      exact ⟨m1, w1⟩
    · rw [g1 i hi] at z; exact ⟨m, z⟩
  have ot : ∀ (i : Nat) c, r2[i]? = some (some c) → (∀ b m, c ≠ Ce.box b m) → r[i]? = some (some c) := fun i c z nc => by
    by_cases hi : i ∈ borSlots xs
    · obtain ⟨j, ej⟩ := borSlots_ix hi
      obtain ⟨b1, m1, m1', w1, w2, w3⟩ := g2 j i ej
      rw [w3] at z
      cases z
      exact absurd rfl (nc _ _)
    · rw [g1 i hi] at z; exact z
  have nf : ∀ p o, H p = some o → F p = none → H' p = some o → (∀ xs, o ≠ .tup xs) → ¬ IsGh as p → F' p = none := fun p o h1 h2 h3 h4 h6 => by
    cases w : F' p with
    | none => rfl
    | some u =>
      rcases d.new p u w with y | y | y | ⟨xs, y⟩
      · rw [h2] at y; cases y
      · rw [h1] at y; cases y
      · exact absurd y h6
      · have h5 := d.subH p u w
        rw [h3, y] at h5
        exact absurd (Option.some.inj h5) (h4 xs)
  -- the address of a handed box
  have ib : ∀ p, IsBox as vs p → ∃ (j i : Nat) (m : MB) (b : Bool), as[j]? = some (.box m) ∧ vs[j]? = some (.ref p) ∧ xs[j]? = some (.bor i) ∧ r[i]? = some (some (.box b m)) ∧ s[i]? = some (some (.ref p)) := fun p ⟨j, m, e1, e2⟩ => by
    obtain ⟨i, b, e3, e4⟩ := hb j m ((x0 j m).mp e1)
    obtain ⟨v, w1, w2⟩ := t.get e3
    rw [e2] at w1; cases w1
    cases w2 with | bor w2 => exact ⟨j, i, m, b, e1, e2, e3, e4, w2⟩
  refine ⟨hl.trans k.len, d.subH, k.f0.trans d.sub, fun a o z => ?_, fun a o z => ?_, fun a z => d.dom a (k.dom a z), fun i v z => ?_, fun i b m z => ?_, fun i ns z => ?_, fun i j p b m b' m' z1 z2 w1 w2 => ?_, fun i n a z => ?_, fun i G z => ?_, k.gpF⟩
  · refine d.keep a o (k.prot a o z) (fun y => ?_) fun y => ?_
    · obtain ⟨_, i, m, b, _, _, _, e4, e5⟩ := ib a y
      obtain ⟨p, _, w1, _, _, _, w5, _⟩ := k.box i b m e4
      rw [e5] at w1; cases w1
      rw [z] at w5; cases w5
    · rw [(hg a y).1] at z; cases z
  · rcases d.new a o z with y | y | y | y
    · exact k.new a o y
    · refine .inr (.inl ?_)
      cases w : e.P a with
      | none => rfl
      | some u => rw [k.prot a u w] at y; cases y
    · exact .inr (.inl (hg a y).1)
    · exact .inr (.inr y)
  · obtain ⟨u, y1, y2⟩ := k.slot i v (ot i _ z (by intro _ _ q; cases q))
    exact ⟨u, y1, y2.mono d.sub⟩
  · by_cases hi : i ∈ borSlots xs
    · obtain ⟨j, ej⟩ := borSlots_ix hi
      obtain ⟨b1, m1, m1', w1, w2, w3⟩ := g2 j i ej
      rw [w3] at z
      cases z
      obtain ⟨p, o, y1, y2, y3, y4, y5, y6⟩ := k.box i b m1 w1
      obtain ⟨v, u1, u2⟩ := t.get ej
      cases u2 with | bor u2 =>
      rw [y1] at u2; cases u2
      have ej' : ∃ m2, as0[j]? = some (.box m2) := by
        have : ∀ {xs : List R} {as : List Ar} {j : Nat}, arsOf r xs = some as → xs[j]? = some (.bor i) → ∃ m2, as[j]? = some (.box m2) := by
          intro xs
          induction xs with
          | nil => intro as j _ h; simp at h
          | cons x xs ih =>
            intro as j h1 h2
            simp only [arsOf] at h1
            split at h1
            · rename_i a1 as1 f1 f2
              cases h1
              cases j with
              | zero =>
                simp at h2; subst h2
                simp only [arOf] at f1
                split at f1
                · cases f1; exact ⟨_, rfl⟩
                · cases f1
              | succ j => obtain ⟨m2, f3⟩ := ih f2 (by simpa using h2); exact ⟨m2, by simpa using f3⟩
            · cases h1
        exact this q ej
      obtain ⟨m2, ej'⟩ := ej'
      obtain ⟨m3, o3, f1, f2, f3, f4⟩ := d.box j m2 p ((x0 j m2).mpr ej') u1
      rw [x1 j _ w2] at f1; cases f1
      exact ⟨p, o3, y1, f2, f3, f4, y5, y6⟩
    · rw [g1 i hi] at z
      obtain ⟨p, o, y1, y2, y3, y4, y5, y6⟩ := k.box i b m z
      have hk : H' p = some o := d.keep p o y2 (fun y => by
        obtain ⟨j, i', m', b', _, _, e3, e4, e5⟩ := ib p y
        have := k.sep i i' p b m b' m' z e4 y1 e5
        subst this
        exact hi (borSlots_mem e3)) (fun y => (hg p y).2.1 i b m z y1)
      exact ⟨p, o, y1, hk, y3.mono d.sub, nf p o y2 y4 hk y3.ntup (fun y => (hg p y).2.1 i b m z y1), y5, y6⟩
  · obtain ⟨u, y1, y2⟩ := k.ob i ns (ot i _ z (by intro _ _ q; cases q))
    exact ⟨u, y1, y2.mono d.sub⟩
  · obtain ⟨_, y1⟩ := bx i b m z1
    obtain ⟨_, y2⟩ := bx j b' m' z2
    exact k.sep i j p _ _ _ _ y1 y2 w1 w2
  · exact k.adr i n a (ot i _ z (by intro _ _ q; cases q))
  · have z' := ot i _ z (by intro _ _ q; cases q)
    obtain ⟨y1, y2, y3⟩ := k.gh i G z'
    have kg : ∀ p ∈ fp G, ∀ o, H p = some o → H' p = some o := fun p w o x => d.keep p o x (fun y => by
      obtain ⟨_, i', m, b, _, _, _, e4, e5⟩ := ib p y
      exact y2 i' b m p e4 e5 w) fun y => (hg p y).2.2 i G z' w
    refine ⟨y1.move d.sub kg (fun p w => ?_) fun p w => ⟨(y1.fr p w).2.1, (y1.fr p w).2.2.1⟩, fun j b m p z2 w => ?_, fun j G' z2 => ?_⟩
    · obtain ⟨u1, _, _, u4⟩ := y1.fr p w
      cases u : H p with
      | none => exact absurd u u4
      | some o => exact nf p o u u1 (kg p w o u) (fun xs q => y1.ntup w xs (by rw [u, q])) fun y => (hg p y).2.2 i G z' w
    · obtain ⟨_, z3⟩ := bx j b m z2
      exact y2 j b _ p z3 w
    · exact y3 j G' (ot j _ z2 (by intro _ _ q; cases q))
theorem call_ok {xs : List R} {vs : List V} {as as' : List Ar} {F' H' : Hp} {r2 : Rho} (t : RTs K F s xs vs) (k : Ok K e F r s H) (ho : once (borSlots xs) = true) (q : arsOf r xs = some as) (d : Did K F H as vs F' H' as') (qb : backArs r xs as' = some r2) :
    Ok K e F' r2 s H' := by
  have ng := arsOf_nogh q
  exact call_okG t k ho q d qb (fun _ _ => Iff.rfl) (fun _ _ h => h) fun p ⟨i, G, e1, _⟩ => absurd e1 (ng i G)
theorem call_rr {xs : List R} {vs : List V} {as as' : List Ar} {F' H' : Hp} {r2 : Rho} {x : R} {v : V} (k : Ok K e F r s H) (ho : once (borSlots xs) = true) (qb : backArs r xs as' = some r2) (h : ReOk K F' H H' x v) : RR K e F' r2 s H' x v := by
  obtain ⟨hl, g1, g2⟩ := backArs_get ho qb
  cases h with
  | val a => exact .val a
  | adr => exact .adr
  | @own p o m h1 h2 h3 h4 =>
    have fr := k.free h1
    have nbx := k.nobox h1
    refine .own h2 h3 h4 fr.2.1 fr.2.2 ⟨fun i b m' z y => ?_, fun i G z => ?_⟩
    rotate_left
    · refine nbx.2 i G ?_
      by_cases hi : i ∈ borSlots xs
      · obtain ⟨j, ej⟩ := borSlots_ix hi
        obtain ⟨b1, m1, m1', w1, w2, w3⟩ := g2 j i ej
        rw [w3] at z
        cases z
      · rw [g1 i hi] at z; exact z
    have : ∃ m0, r[i]? = some (some (Ce.box b m0)) := by
      by_cases hi : i ∈ borSlots xs
      · obtain ⟨j, ej⟩ := borSlots_ix hi
        obtain ⟨b1, m1, m1', w1, w2, w3⟩ := g2 j i ej
        rw [w3] at z
        cases z
        exact ⟨m1, w1⟩
      · rw [g1 i hi] at z; exact ⟨m', z⟩
    obtain ⟨m0, w⟩ := this
    exact nbx.1 i b m0 w y
end
end DL
namespace DL
open PySem L2 PyProof.Rows
def TAk (X : Cx) (kws : List Keyword) (m : MA) : Prop := ∀ e, PK X kws (TAl X.K e m)
theorem PK.imp {X : Cx} {a : List Keyword} {t u : TA} (h : PK X a t) (i : ∀ s H Q, u s H Q → t s H Q) : PK X a u := ⟨fun pos pins s σ H Q I q => h.run pos pins s σ H Q I (i _ _ _ q)⟩
section
variable {X : Cx} {a : Expr} {es : List Expr} {ma : ME} {ms mk : MA} {kws : List Keyword} {nm : Option Str} {kpos : Pos}
theorem dk_nil : TAk X [] aNil := fun e => PK.imp pk_nil fun s H Q ⟨F, r, k, P, hm, hP⟩ => hP _ r _ F H hm k (Sub.refl F) .nil
theorem dk_cons (ha : DE X a ma) (hr : TAk X kws ms) : TAk X (⟨nm, a, kpos⟩ :: kws) (aCons ma ms) := fun e =>
  PK.imp (pk_cons (ha.tmp e) (hr e)) fun s H Q ⟨F, r, k, P, hm, hP⟩ => ⟨F, r, k, fun x r1 => ms r1 fun xs r2 => P (x :: xs) r2, hm, fun x r1 v F1 H1 hx k1 q1 t1 =>
    ⟨F1, r1, k1, _, hx, fun xs r2 vs F2 H2 hxs k2 q2 t2 => hP _ r2 _ F2 H2 hxs k2 (q1.trans q2) (.cons (t1.mono q2) t2)⟩⟩
end
/-- how a call binds: n values by places, those named ks by names; G puts them, and the defaults, in the parameters' order -/
structure Bd (K : Fg) (fd : FuncData) (ps : List Str) (n : Nat) (ks : List Str) (G : List R → List R → List R) : Prop where
  ex : ∃ (g : List Value → List Value → List Value) (gV : List V → List V → List V), KBn K fd ps n ks g gV ∧ (∀ vs zs, vs.length = n → zs.length = ks.length → (gV vs zs).length = ps.length) ∧
    ∀ (F : Hp) (s : L2.St) xs vs zs ws, RTs K F s xs vs → RTs K F s zs ws → vs.length = n → ws.length = ks.length → RTs K F s (G xs zs) (gV vs ws)
theorem RTs.length {K : Fg} {F : Hp} {s : L2.St} {xs : List R} {vs : List V} (t : RTs K F s xs vs) : xs.length = vs.length := by
  induction t with
  | nil => rfl
  | cons _ _ ih => rw [List.length_cons, List.length_cons, ih]
theorem RTs.append {K : Fg} {F : Hp} {s : L2.St} {xs ys : List R} {vs us : List V} (t : RTs K F s xs vs) (u : RTs K F s ys us) : RTs K F s (xs ++ ys) (vs ++ us) := by
  induction t with
  | nil => exact u
  | cons a _ ih => exact .cons a ih
/-- data that stand by themselves -/
inductive Flat : V → D → Prop
  | non : Flat .non .none
  | bl (b : Bool) : Flat (.bl b) (.bool b)
  | int (i : Int) : Flat (.int i) (.int i)
  | str (x : Str) : Flat (.str x) (.str x)
theorem Flat.rp {K : Fg} {F : Hp} {v : V} {d : D} (h : Flat v d) : Rp K F v d := by
  cases h with
  | non => exact .non
  | bl b => exact .bl b
  | int i => exact .int i
  | str x => exact .str x
inductive Flats : List V → List D → Prop
  | nil : Flats [] []
  | cons {v : V} {d : D} {vs : List V} {ds : List D} : Flat v d → Flats vs ds → Flats (v :: vs) (d :: ds)
theorem Flats.rts {K : Fg} {F : Hp} {s : L2.St} {vs : List V} {ds : List D} (h : Flats vs ds) : RTs K F s (ds.map R.val) vs := by
  induction h with
  | nil => exact .nil
  | cons a _ ih => exact .cons (.val a.rp) ih
/-- by places, the rest by defaults -/
theorem Bd.of {K : Fg} {fd : FuncData} {ps : List Str} {n : Nat} {dvs : List V} {dds : List D} {ds : List Value} (hb : Binds K fd ps ds) (hd : Vals dvs ds) (hf : Flats dvs dds) (hn : n + dvs.length = ps.length) : Bd K fd ps n [] (fun xs _ => xs ++ dds.map R.val) := by
  refine ⟨fun us _ => us ++ ds, fun vs _ => vs ++ dvs, ⟨fun s us ws KX h1 h2 => ?_, fun r _ => r.append hd⟩, fun vs zs h1 h2 => ?_, fun F s xs vs zs ws t _ _ _ => t.append hf.rts⟩
  · have hl : (us ++ ds).length = ps.length := by rw [List.length_append, h1, ← hd.length]; exact hn
    exact hb s us KX hl
  · rw [List.length_append, h1, hn]
def mFnK (c : Ct) (G : List R → List R → List R) (n m : Nat) (ms mk : MA) : ME := mFn c fun r P => ms r fun xs r1 => mk r1 fun zs r2 => rqB (decide (xs.length = n) && decide (zs.length = m)) (P (G xs zs) r2)
section
variable {X : Cx} {a : Expr} {es : List Expr} {ma : ME} {ms mk : MA} {kws : List Keyword} {k n : Nat} {f : Addr} {fd : FuncData} {ps ks : List Str} {c : Ct} {x : Str} {p pos : Pos} {G : List R → List R → List R}
theorem run_fnd {pins : List (Addr × Obj)} {σ : L2.St} {H : Hp} {s : Shared} {Q : VK} {us ws : List Value} {vs zs : List V} {g : List Value → List Value → List Value} {gV : List V → List V → List V} (F : FnD X.prog X.w X.K X.mg X.base k f fd ps c) (hr : Rm k X.A) (hgu : X.A.guards = some []) (hb : KBn X.K fd ps n ks g gV)
    (I : L2.Inv X pins σ H s) (r : Vals vs us) (rz : Vals zs ws) (l1 : vs.length = n) (l2 : zs.length = ks.length) (h : spD X.K ps.length c (gV vs zs) H Q E0) : wpAny (model X.prog X.w) X.A (call (.ref f) us (ks.zip ws)) (EP X pins σ Q) X.xe s := by
  refine wpAny_call (codeAny_mono (F.run X.A X.stack s H ⟨us, ks.zip ws⟩ (g us ws) (gV vs zs) Q E0 hr hgu I.env0 (hb.to s us ws I.kIn (r.length.symm.trans l1) (rz.length.symm.trans l2)) (hb.rel r rz) h) fun y s' hq => ?_)
  cases y with
  | error e => exact False.elim hq
  | ok fl =>
    cases fl with
    | ret u => exact I.after hq
    | next => exact False.elim hq
    | brk => exact False.elim hq
    | cont => exact False.elim hq
theorem fn_read {e : En} {gV : List V → List V → List V} (hl : ∀ vs zs, vs.length = n → zs.length = ks.length → (gV vs zs).length = ps.length) (hG : ∀ (F : Hp) (s : L2.St) xs vs zs ws, RTs X.K F s xs vs → RTs X.K F s zs ws → vs.length = n → ws.length = ks.length → RTs X.K F s (G xs zs) (gV vs ws))
    {s : L2.St} {H : Hp} {Q : VK} (h : T X.K e (mFnK c G n ks.length ms mk) s H Q) : (TAl X.K e ms) s H fun vs H1 => (TAl X.K e mk) s H1 fun zs H2 => vs.length = n ∧ zs.length = ks.length ∧ spD X.K ps.length c (gV vs zs) H2 Q E0 := by
  obtain ⟨F, r, k, P, hm, hP⟩ := h
  refine ⟨F, r, k, _, hm, fun xs r1 vs F1 H1 hx k1 q1 t1 => ⟨F1, r1, k1, _, hx, fun zs r2 ws F2 H2 hz k2 q2 t2 => ?_⟩⟩
  obtain ⟨nn, hz2⟩ := rqB.ex hz
  rw [Bool.and_eq_true, decide_eq_true_eq, decide_eq_true_eq] at nn
  obtain ⟨n1, n2⟩ := nn
  obtain ⟨ho, hz3⟩ := rqB.ex hz2
  obtain ⟨as, ea, hz4⟩ := onO.ex hz3
  have hc := hz4.h
  have l1 : vs.length = n := t1.length.symm.trans n1
  have l2 : ws.length = ks.length := t2.length.symm.trans n2
  have t := hG F2 s xs vs zs ws (t1.mono q2) t2 l1 l2
  obtain ⟨ha, hb⟩ := t.ars k2 ea
  refine ⟨l1, l2, F2, as, hl _ _ l1 l2, k2.sub, ha, ?_, _, hc, fun x as' v F' H' hx d re => by
    obtain ⟨r3, eb, hp⟩ := onS.ex hx
    exact hP x r3 v F' H' hp (call_ok t k2 ho ea d eb) ((q1.trans q2).trans d.sub) (call_rr (as := as) (vs := gV vs ws) k2 ho eb re)⟩
  refine ⟨fun i p m _ _ ⟨i2, G, e5, _⟩ => arsOf_nogh ea i2 G e5, ?_⟩
  intro i j p m m' e1 e2 e3 e4
  obtain ⟨i1, b1, g1, g2⟩ := hb i m e1
  obtain ⟨i2, b2, g3, g4⟩ := hb j m' e2
  obtain ⟨v1, u1, u2⟩ := t.get g1
  obtain ⟨v2, u3, u4⟩ := t.get g3
  rw [e3] at u1; cases u1
  rw [e4] at u3; cases u3
  cases u2 with | bor u2 =>
  cases u4 with | bor u4 =>
  have := k2.sep i1 i2 p _ _ _ _ g2 g4 u2 u4
  subst this
  exact once_apart ho g1 g3
theorem de_fn (F : FnD X.prog X.w X.K X.mg X.base k f fd ps c) (hr : Rm k X.A) (hgu : X.A.guards = some []) (hg : Gl X x) (hm : X.mg x = some (.ref f)) (hk : PySem.W.keepIn X.K (.ref f) = true) (hb : Bd X.K fd ps n [] G)
    (ha : DA X (a :: es) ms) (hdb : (x == ("__debug__" : Str)) = false := by decide) (he : starEach (a :: es) X.env = (false, eval a X.env) :: starEach es X.env := by rfl) (hpl : (backTo pos (starEach es X.env)).any (·.1) = false := by rfl) :
    DE X (.Call (.Name x p) (a :: es) [] pos) (mFnK c G n 0 ms aNil) := fun e => by
  obtain ⟨g, gV, hB, hl, hG⟩ := hb.ex
  refine ⟨fun pins s σ H Q I h => wpAny_Call_Name_kw (ld_glob I hg hm (PySem.W.callWith_K (h₀ := X.base) I.ok.mod.kin hk (thn ((ha e).run pos pins s σ H _ I (fn_read (ks := []) hl hG h)) ?_) he hpl) hdb)⟩
  rintro us s1 ⟨vs, H1, I1, r, q⟩
  obtain ⟨F1, r1, k1, P1, hm1, h1⟩ := q
  obtain ⟨l1, l2, q2⟩ := h1 _ r1 [] F1 H1 hm1 k1 (Sub.refl _) .nil
  exact ⟨I1.kIn, run_fnd F hr hgu hB I1 r .nil l1 rfl q2⟩
theorem de_fnK0 (F : FnD X.prog X.w X.K X.mg X.base k f fd ps c) (hr : Rm k X.A) (hgu : X.A.guards = some []) (hg : Gl X x) (hm : X.mg x = some (.ref f)) (hk : PySem.W.keepIn X.K (.ref f) = true) (hb : Bd X.K fd ps 0 ks G)
    (hkw : TAk X kws mk) (hall : (backToKw pos (keywordEach kws X.env)).all (·.1.isSome) = true := by rfl) (hks : (backToKw pos (keywordEach kws X.env)).filterMap (·.1) = ks := by rfl)
    (hdb : (x == ("__debug__" : Str)) = false := by decide)
    (hpl : ((backTo pos (starEach [] X.env)).any (·.1) || (backToKw pos (keywordEach kws X.env)).any (·.1.isNone)) = false := by rfl) : DE X (.Call (.Name x p) [] kws pos) (mFnK c G 0 ks.length aNil mk) := fun e => by
  obtain ⟨g, gV, hB, hl, hG⟩ := hb.ex
  refine ⟨fun pins s σ H Q I h => wpAny_Call_Name_kw (ld_glob I hg hm (PySem.W.callWith_KW0 (h₀ := X.base) I.ok.mod.kin hk hall ?_ hpl) hdb)⟩
  obtain ⟨F0, r0, k0, P0, hm0, h0⟩ := fn_read hl hG h
  refine thn ((hkw e).run pos pins s σ H _ I (h0 _ r0 [] F0 H hm0 k0 (Sub.refl _) .nil)) ?_
  rintro ws s2 ⟨zs, H2, I2, rz, l1, l2, q2⟩
  refine ⟨I2.kIn, ?_⟩
  rw [hks]
  exact run_fnd (us := []) F hr hgu hB I2 .nil rz l1 l2 q2
end
section
variable {X : Cx} {a : Expr} {es : List Expr} {ma : ME} {ms : MA} {x : Str} {p pos apos : Pos} {i : Nat}
/-- what a method does to a box's list -/
abbrev FM := List D → List D → Option (D × List D)
/-- a method of lists and what it does, told so that it runs -/
structure MtK where
  f : FM
  k : List D → List D → (D → List D → Prop) → Prop
  ok : ∀ ds as K, k ds as K → ∃ d ds', f ds as = some (d, ds') ∧ K d ds'
def isL (r : Rho) (i : Nat) : Bool := match r[i]? with
  | some (some (.box _ (.L _))) => true
  | _ => false
theorem isL_of {r : Rho} {i : Nat} (h : isL r i = true) : ∃ b ds, r[i]? = some (some (Ce.box b (.L ds))) := by
  unfold isL at h
  split at h
  · exact ⟨_, _, by assumption⟩
  · cases h
def bxL (r : Rho) (i : Nat) : Option (Bool × List D) := match r[i]? with
  | some (some (.box b (.L ds))) => some (b, ds)
  | _ => none
theorem bxL_of {r : Rho} {i : Nat} {q : Bool × List D} (h : bxL r i = some q) : r[i]? = some (some (.box q.1 (.L q.2))) := by
  unfold bxL at h
  split at h
  · rename_i e; cases h; exact e
  · cases h
def mMeth (i : Nat) (o : MtK) (ms : MA) : ME := fun r P => rqB (isL r i) (ms r fun xs r1 => onP (holds r1 xs) fun qa qb => onP (bxL qb i) fun ba bb => o.k bb qa fun d ds' => strict (qb.set i (some (.box ba (.L ds')))) fun r3 => P (.val d) r3)
def MetD (X : Cx) (id : String) (f : FM) : Prop := ∃ rr : V → List V → Hp → VK → Prop, MtR X id rr ∧ ∀ (F H : Hp) (p : Addr) (xs vs : List V) (ds as : List D) (d : D) (ds' : List D) (Q : VK), Sub F H → H p = some (.lst xs) → RpA X.K F xs ds → RpA X.K F vs as → f ds as = some (d, ds') →
  (∀ v xs', RpA X.K F xs' ds' → Rp X.K F v d → Q v (upd H p (.lst xs'))) → rr (.ref p) vs H Q
theorem meth_read {e : En} {o : MtK} {rr : V → List V → Hp → VK → Prop} (hq : ∀ (F H : Hp) (p : Addr) (xs vs : List V) (ds as : List D) (d : D) (ds' : List D) (Q : VK), Sub F H → H p = some (.lst xs) → RpA X.K F xs ds → RpA X.K F vs as → o.f ds as = some (d, ds') →
    (∀ v xs', RpA X.K F xs' ds' → Rp X.K F v d → Q v (upd H p (.lst xs'))) → rr (.ref p) vs H Q) {s : L2.St} {H : Hp} {Q : VK} (h : T X.K e (mMeth i o ms) s H Q) :
    ∃ v, s[i]? = some (some v) ∧ tyV X.K "list" v H ∧ TAl X.K e ms s H fun vs H2 => rr v vs H2 Q := by
  obtain ⟨F, r, k, P, hx, hP⟩ := h
  obtain ⟨hi, hm⟩ := rqB.ex hx
  obtain ⟨b, ds, hb⟩ := isL_of hi
  obtain ⟨p, ob, g1, g2, g3, _⟩ := k.box i b _ hb
  cases g3 with | L g3 =>
  refine ⟨.ref p, g1, .inl ⟨rfl, _, SqL.of g2⟩, F, r, k, _, hm, ?_⟩
  intro xs r1 vs F1 H1 hx1 k1 q1 t1
  obtain ⟨as, r2, eh, hx2⟩ := onP.ex hx1
  obtain ⟨b2, ds2, er', hx3⟩ := onP.ex hx2
  obtain ⟨d, ds', ef, hx4⟩ := o.ok _ _ _ hx3
  have er := bxL_of er'
  have hp := hx4.ex
  simp only at er ef hp
  obtain ⟨F2, k2, q2, ra⟩ := t1.holds k1 eh
  obtain ⟨p2, o2, w1, w2, w3, w4, w5, w6⟩ := k2.box i b2 _ er
  rw [g1] at w1; cases w1
  cases w3 with | L w3 =>
  exact hq F2 H1 p _ vs ds2 as d ds' Q k2.sub w2 w3 ra ef fun v xs' h1 h2 => hP _ _ v F2 _ hp (k2.write er g1 (.L h1)) (q1.trans q2) (.val h2)
theorem de_meth {id : String} {name : Str} {o : MtK} (hm : MetD X id o.f) (slot : Slot "list" name id) (hty : typeOf (.builtin id) = pure (.type "method_descriptor")) (hN : X.N[i]? = some x) (hv : Vis X.env.scope x) (ha : DA X (a :: es) ms)
    (hd : (x == ("__debug__" : Str)) = false := by decide) (hcd : (x == ("__classdict__" : Str)) = false := by decide) (hbase : attributeBase (.Name x p) name X.env (eval (.Name x p) X.env) = eval (.Name x p) X.env := by rfl)
    (hfew : ((backTo pos (starEach (a :: es) X.env)).all (fun x => !x.1) && (backToKw pos (keywordEach [] X.env)).all (fun x => x.1.isSome) && decide ((a :: es).length + ([] : List Keyword).length + (if ([] : List Keyword).isEmpty then 0 else 1) < 30)) = true := by rfl)
    (hline : (apos.endLine == pos.line) = true := by rfl) (hs : starEach (a :: es) X.env = (false, eval a X.env) :: starEach es X.env := by rfl) (hplain : (backTo pos (starEach es X.env)).any (·.1) = false := by rfl) : DE X (.Call (.Attribute (.Name x p) name apos) (a :: es) [] pos) (mMeth i o ms) := fun e => by
  obtain ⟨rr, hr, hq⟩ := hm
  exact PE.imp (pe_bm PySem.F.plainAttrs_list slot hty hr (pe_var hN hv hd hcd) (ha e) hbase hfew hline hs hplain) fun s H Q h => by
    obtain ⟨v, h1, h2, h3⟩ := meth_read hq h
    exact ⟨v, h1, h2, h3⟩
def fAppend : FM := fun ds as => match as with
  | [d] => if ds.length < sizeLine then some (.none, ds ++ [d]) else none
  | _ => none
theorem met_append : MetD X "list.append" fAppend := by
  refine ⟨_, mt_append, fun F H p xs vs ds as d ds' Q sb hp r1 r2 ef w => ?_⟩
  unfold fAppend at ef
  split at ef
  · split at ef
    · rename_i hz; cases ef
      cases r2 with | cons a b =>
      cases b
      exact ⟨p, xs, _, rfl, rfl, hp, by rw [r1.length]; exact hz, w _ _ (r1.append (.cons a .nil)) .non⟩
    · cases ef
  · cases ef
theorem RpA.last {K : Fg} {F : Hp} {vs : List V} {ds : List D} {d : D} (h : RpA K F vs ds) (q : ds.getLast? = some d) : ∃ v, vs[vs.length - 1]? = some v ∧ Rp K F v d ∧ RpA K F vs.dropLast ds.dropLast := by
  rw [List.getLast?_eq_getElem?] at q
  rw [← h.length] at q
  obtain ⟨v, e1, e2⟩ := h.getD q
  refine ⟨v, e1, e2, ?_⟩
  rw [List.dropLast_eq_take, List.dropLast_eq_take, h.length]
  exact h.take _
end
def kAppend (ds as : List D) (K : D → List D → Prop) : Prop := match as with
  | [d] => Rq (ds.length < sizeLine) (K .none (ds ++ [d]))
  | _ => False
def tAppend : MtK := ⟨fAppend, kAppend, fun ds as K h => by
  unfold kAppend at h
  split at h
  · exact ⟨_, _, rq_if h, Rq.a h⟩
  · exact h.elim⟩
end DL
namespace DL
open PySem L2 PyProof.Rows
section
variable {prog : Program} {w : World} {A : Around} {E : Value → Shared → Prop} {s : Shared}
theorem star_fin {items : Array Value} {n i : Nat} {Q : List Value → Shared → Prop} {h2 : Heap} {tk : Nat} (hi : i < n) (hn : n ≤ items.size + 1) (hz : items.size ≤ sizeLine)
    (hQ : Q (items.toList.take i ++ [.ref h2.objs.size] ++ (items.toList.drop i).drop (items.size + 1 - n)) { s with heap := h2.push { cls := .type "list", data := .seq ((items.toList.drop i).take (items.size + 1 - n)).toArray }, toks := tk }) :
    wpAny (model prog w) A (do
      if (items.toList.drop i).length < n - 1 - i then
        rule "unpack.star.too-few"
        raiseError "ValueError" s!"not enough values to unpack (expected at least {n - 1}, got {i + (items.toList.drop i).length})"
      pure (items.toList.take i ++ [← newList ((items.toList.drop i).take ((items.toList.drop i).length - (n - 1 - i)))] ++ (items.toList.drop i).drop ((items.toList.drop i).length - (n - 1 - i)))) Q E { s with heap := h2, toks := tk } := by
  have hrl : (items.toList.drop i).length = items.size - i := by rw [List.length_drop, Array.length_toList]
  have hmid : (items.toList.drop i).length - (n - 1 - i) = items.size + 1 - n := by rw [hrl]; omega
  rw [if_neg (by rw [hrl]; omega), hmid]
  exact wpAny_bind (wpAny_newList (wpAny_pure hQ) (by rw [List.length_take, hrl]; omega))
theorem star_tuple {t : Addr} {items : Array Value} {n i : Nat} {Q : List Value → Shared → Prop} (hh : A.handled = none) (ht : IsTup s.heap t items) (hi : i < n) (hn : n ≤ items.size + 1) (hz : items.size ≤ sizeLine)
    (hQ : ∀ (h' : Heap) (tk : Nat), (∀ b o, s.heap.get? b = some o → h'.get? b = some o) → Q (items.toList.take i ++ [.ref h'.objs.size] ++ (items.toList.drop i).drop (items.size + 1 - n)) { s with heap := h'.push { cls := .type "list", data := .seq ((items.toList.drop i).take (items.size + 1 - n)).toArray }, toks := tk }) :
    wpAny (model prog w) A (unpackItems (.ref t) n (some i)) Q E s := by
  have lt : t < s.heap.objs.size := by obtain ⟨o, ho, _⟩ := ht; exact Heap.lt_size ho
  have hlt : t ≠ s.heap.objs.size := Nat.ne_of_lt lt
  unfold unpackItems notIterableAtAll
  refine wpAny_bind (wpAny_bind (wpAny_specialOf ht.typeIs slot_tuple_iter.lookup (wpAny_pure ?_)))
  simp only [Bool.false_eq_true, if_false]
  refine wpAny_bind (wpAny_holding (iter_tuple ht (wpAny_bind (wpAny_holding (draw_tuple hlt i 0 _ _ ⟨_, Heap.get?_push_size _ rfl, rfl, rfl⟩ (ht.push _) (by omega) fun h1 it1 sb1 => ?_)))))
  have t1 : IsTup h1 t items := (ht.push _).extBut sb1.extBut hlt
  rw [Nat.zero_add] at it1
  have hI : s.heap.objs.size < h1.objs.size := by obtain ⟨oi, hoi, _⟩ := id it1; exact Heap.lt_size hoi
  have hT : t < h1.objs.size := by obtain ⟨ol, hol, _⟩ := id t1; exact Heap.lt_size hol
  rw [List.drop_zero]
  have hfl : (items.toList.take i).length = i := by rw [List.length_take, Array.length_toList]; omega
  rw [if_neg (show ¬ ((items.toList.take i).length < i) by rw [hfl]; omega)]
  refine wpAny_bind (wpAny_holding (PySem.W.kun_collect (s := { s with heap := h1 }) (T := "tuple_iterator") (.inr (.inr (.inr rfl))) (Walks.tuple (A := A.in1) hh s.heap.objs.size t hlt items) (fun j u st => st.1.typeIs) (k := i) (by omega) ⟨it1, t1⟩ hI hT (fun h2 tk hk => ?_) hz))
  exact star_fin hi hn hz (hQ h2 tk fun b o e => hk b o (Nat.ne_of_lt (Heap.lt_size e)) (sb1.extBut b o (Nat.ne_of_lt (Heap.lt_size e)) (Heap.get?_push_of_some _ e)))
theorem star_list {t : Addr} {items : Array Value} {n i : Nat} {Q : List Value → Shared → Prop} (hh : A.handled = none) (ht : s.heap.IsList t items) (hi : i < n) (hn : n ≤ items.size + 1) (hz : items.size ≤ sizeLine)
    (hQ : ∀ (h' : Heap) (tk : Nat), (∀ b o, s.heap.get? b = some o → h'.get? b = some o) → Q (items.toList.take i ++ [.ref h'.objs.size] ++ (items.toList.drop i).drop (items.size + 1 - n)) { s with heap := h'.push { cls := .type "list", data := .seq ((items.toList.drop i).take (items.size + 1 - n)).toArray }, toks := tk }) :
    wpAny (model prog w) A (unpackItems (.ref t) n (some i)) Q E s := by
  have lt : t < s.heap.objs.size := by obtain ⟨o, ho, _⟩ := ht; exact Heap.lt_size ho
  have hlt : t ≠ s.heap.objs.size := Nat.ne_of_lt lt
  unfold unpackItems notIterableAtAll
  refine wpAny_bind (wpAny_bind (wpAny_specialOf ht.typeIs slot_list_iter.lookup (wpAny_pure ?_)))
  simp only [Bool.false_eq_true, if_false]
  refine wpAny_bind (wpAny_holding (wpAny_pyIter_list ht (wpAny_bind (wpAny_holding (PySem.W.kun_draw hlt i 0 _ _ ⟨_, Heap.get?_push_size _ rfl, rfl, rfl⟩ (ht.push _) (by omega) fun h1 it1 sb1 => ?_)))))
  have t1 : h1.IsList t items := (ht.push _).extBut sb1.extBut hlt
  rw [Nat.zero_add] at it1
  have hI : s.heap.objs.size < h1.objs.size := by obtain ⟨oi, hoi, _⟩ := id it1; exact Heap.lt_size hoi
  have hT : t < h1.objs.size := by obtain ⟨ol, hol, _⟩ := id t1; exact Heap.lt_size hol
  rw [List.drop_zero]
  have hfl : (items.toList.take i).length = i := by rw [List.length_take, Array.length_toList]; omega
  rw [if_neg (show ¬ ((items.toList.take i).length < i) by rw [hfl]; omega)]
  refine wpAny_bind (wpAny_holding (PySem.W.kun_collect (s := { s with heap := h1 }) (T := "list_iterator") (.inr (.inr (.inl rfl))) (Walks.list (A := A.in1) hh s.heap.objs.size t hlt items) (fun j u st => st.1.typeIs) (k := i) (by omega) ⟨it1, t1⟩ hI hT (fun h2 tk hk => ?_) hz))
  exact star_fin hi hn hz (hQ h2 tk fun b o e => hk b o (Nat.ne_of_lt (Heap.lt_size e)) (sb1.extBut b o (Nat.ne_of_lt (Heap.lt_size e)) (Heap.get?_push_of_some _ e)))
end
section
variable {X : Cx} {a b c t : Expr} {es : List Expr} {x : Str} {pos : Pos} {vs : List Nat} {g : GT} {gs : GTs}
def starL {α : Type} (n i : Nat) (mk : List α → α) (xs : List α) : List α := xs.take i ++ [mk ((xs.drop i).take (xs.length + 1 - n))] ++ (xs.drop i).drop (xs.length + 1 - n)
def gStarV (K : PySem.W.Frag) (n i : Nat) (t : TGs) : TG := fun v σ H Q => ∃ a xs, v = .ref a ∧ (SqT K H a xs ∨ SqL K H a xs) ∧ i < n ∧ n ≤ xs.length + 1 ∧ ∀ p, H p = none → t (starL n i (fun _ => .ref p) xs) σ (upd H p (.lst ((xs.drop i).take (xs.length + 1 - n)))) Q
theorem pg_star {k : Nat} {t : TGs} {n i : Nat} (hc : X.calm = true) (h : PGs X es t)
    (hn : (assignEach es X.env).length = n := by rfl) (hst : (assignEach es X.env).findIdx? (·.1) = some i := by rfl) : PG X (.Tuple es k pos) (gStarV X.K n i t) := by
  refine ⟨fun pins s σ H v u Q I r hw => ?_⟩
  obtain ⟨a, xs, e1, hq, hi, hl, hw⟩ := hw
  subst e1
  cases r
  have fin : ∀ (its : List Value) (h' : Heap) (tk : Nat), Vals xs its → xs.length ≤ sizeLine → (∀ b o, s.heap.get? b = some o → h'.get? b = some o) →
      wpAny (model X.prog X.w) X.A (assignInOrder ((assignEach es X.env).map (·.2)) (its.take i ++ [.ref h'.objs.size] ++ (its.drop i).drop (its.length + 1 - n))) (fun _ s' => ∃ σ' H', L2.Inv X pins σ' H' s' ∧ Q σ' H') X.xe { s with heap := h'.push { cls := .type "list", data := .seq ((its.drop i).take (its.length + 1 - n)).toArray }, toks := tk } := by
    intro its h' tk rv hz hk
    have I1 : L2.Inv X pins σ H { s with heap := h', toks := tk } := I.kept hk
    have le := rv.length
    have I2 : L2.Inv X pins σ (upd H h'.objs.size (.lst ((xs.drop i).take (xs.length + 1 - n)))) { s with heap := h'.push { cls := .type "list", data := .seq ((its.drop i).take (its.length + 1 - n)).toArray }, toks := tk } := by
      refine I1.laid (t' := tk) (fun b ob q => Heap.get?_push_of_some _ q) (Nat.le_refl _) ?_
      refine ⟨by rw [List.length_take, List.length_drop]; omega, _, 0, ?_, Heap.get?_push_size _ rfl⟩
      rw [le]
      exact (rv.drop i).take _
    refine h.run pins _ σ _ _ _ Q I2 ?_ (hw _ (I1.hok.fresh (Nat.le_refl _)))
    unfold starL
    rw [le]
    exact ((rv.take i).append (.cons (show L2.RelV (V.ref h'.objs.size) (.ref h'.objs.size) from rfl) .nil)).append ((rv.drop i).drop _)
  rw [assign_Tuple]
  refine wpAny_bind (wpAny_standAt ?_)
  unfold unpack
  rw [hn, hst]
  rcases hq with hq | hq
  · obtain ⟨its, rv, ht, hz⟩ := I.tuple hq
    have le := rv.length
    refine wpAny_bind (wpAny_holding (star_tuple (I.ok.hd hc) ht hi (by rw [List.size_toArray]; omega) (by rw [List.size_toArray]; omega) fun h' tk hk => ?_))
    have := fin its h' tk rv hz hk
    simpa using this
  · obtain ⟨its, rv, ht, hz⟩ := I.list hq
    have le := rv.length
    refine wpAny_bind (wpAny_holding (star_list (I.ok.hd hc) ht.isList hi (by rw [List.size_toArray]; omega) (by rw [List.size_toArray]; omega) fun h' tk hk => ?_))
    have := fin its h' tk rv hz hk
    simpa using this
def seqD : D → Option (List D)
  | .tuple ds => some ds
  | .list ds => some ds
  | _ => none
def gStar (n i : Nat) (gs : GTs) : GT := fun d r => match seqD d with
  | some ds => if i < n ∧ n ≤ ds.length + 1 then gs (starL n i .list ds) r else none
  | none => none
theorem dg_star {k : Nat} {n i : Nat} (hc : X.calm = true) (h : DGs X es vs gs) (hn : (assignEach es X.env).length = n := by rfl) (hst : (assignEach es X.env).findIdx? (·.1) = some i := by rfl) : DG X (.Tuple es k pos) vs (gStar n i gs) := fun e =>
  PG.imp (pg_star hc (h e) hn hst) fun v s H Q ⟨F, r, d, r', k, rp, eg, hQ⟩ => by
    unfold gStar at eg
    split at eg
    · rename_i ds ed
      split at eg
      · rename_i hl
        have fin : ∀ (a : Addr) (xs : List V), RpA X.K F xs ds → (SqT X.K H a xs ∨ SqL X.K H a xs) → gStarV X.K n i (TGts X.K e vs gs) (.ref a) s H Q := by
          intro a xs ra hq
          have le := ra.length
          refine ⟨a, xs, rfl, hq, hl.1, by omega, fun p hp => ?_⟩
          have fr := k.free hp
          have k1 := k.lay (o := .lst ((xs.drop i).take (xs.length + 1 - n))) hp
          have sb : Sub F (upd F p (.lst ((xs.drop i).take (xs.length + 1 - n)))) := Sub.new fr.1
          refine ⟨_, r, _, r', k1, ?_, eg, fun s' F' H' k' q' w' => hQ s' F' H' k' (sb.trans q') w'⟩
          have rb := ra.mono sb
          unfold starL
          rw [← le]
          exact ((rb.take i).append (.cons (.lst (.inl upd_same) ((rb.drop i).take _)) .nil)).append ((rb.drop i).drop _)
        cases rp with
        | tup g1 g2 => cases ed; exact fin _ _ g2 (.inl (k.sub.sqT g1.sqT))
        | lst g1 g2 => cases ed; exact fin _ _ g2 (.inr (.inl (k.sub.rd g1)))
        | _ => cases ed
      · cases eg
    · cases eg
theorem dgs_star {p : Pos} (h1 : DG X t vs g) (h2 : DGs X es vs gs) (hs : (assignEach (.Starred t p :: es) X.env).map (·.2) = assign t X.env :: (assignEach es X.env).map (·.2) := by rfl) : DGs X (.Starred t p :: es) vs (gCs g gs) := fun e => by
  refine ⟨fun pins s σ H us ws Q I r ⟨F, r0, d, r', k, rp, eg, hQ⟩ => ?_⟩
  cases rp with
  | nil => cases eg
  | cons r1 r2 =>
    simp only [gCs] at eg
    split at eg
    · rename_i r1' e1
      cases r with
      | cons rv rr =>
        rw [hs]
        refine assignInOrder_cons (thn ((h1 e).run pins s σ H _ _ _ I rv ⟨F, r0, _, r1', k, r1, e1, fun s1 F1 H1 k1 q1 w1 => (⟨F1, r1', _, r', k1, r2.mono q1, eg, fun s2 F2 H2 k2 q2 w2 => hQ s2 F2 H2 k2 (q1.trans q2) (w2.trans w1)⟩ : TGts X.K e vs gs _ s1 H1 Q)⟩) fun _ s1 ⟨σ1, H1, I1, q1⟩ => ?_)
        exact (h2 e).run pins s1 σ1 H1 _ _ Q I1 rr q1
    · cases eg
def sAsg (m : ME) (g : GT) : MS := fun r O => m r fun x r1 => onP (hold r1 x.tmp) fun qa qb => onS (g qa qb) O.nx
theorem ds_asg {ma : ME} (ha : DE X a ma) (hg : DG X b vs g) (hs : swapsWithSole [b] a pos.line X.env = pure false := by rfl) (hw : swappedStores [b] a X.env = pure none := by rfl)
    (h1 : (assignEach [b] X.env).map (·.2) = [assign b X.env] := by rfl) : DS X (.Assign [b] a pos) (sAsg ma g) := fun e =>
  PS.imp (ps_asg (ha.tmp e) (hg e) hs hw h1) fun D s H ⟨F, r, k, O, hm, h⟩ => ⟨F, r, k, fun x r1 => onP (hold r1 x) fun qa qb => onS (g qa qb) O.nx, hm, fun x r1 v F1 H1 hx k1 q t => by
    obtain ⟨d, r2, eh, hx2⟩ := onP.ex hx
    obtain ⟨r3, eg, hp⟩ := onS.ex hx2
    obtain ⟨F2, k2, q2, rp⟩ := t.hold k1 eh
    exact ⟨F2, r2, d, r3, k2, rp, eg, fun s' F' H' k' q' w' => h.nx r3 s' F' H' hp k' ((q.trans q2).trans q')⟩⟩
end
end DL
namespace DL
open PySem L2 PyProof.Rows
section
variable {X : Cx} {a b : Expr} {ma mb : ME} {pos pos' p : Pos} {x : Str} {i : Nat}
def itOf : D → Option Int
  | .int i => some i
  | _ => none
theorem itOf_of {d : D} {i : Int} (h : itOf d = some i) : d = .int i := by
  unfold itOf at h
  split at h
  · cases h; rfl
  · cases h
/-- the items of a list, one by one -/
def strictL (l : List D) (K : List D → Prop) : Prop := match l with
  | [] => K []
  | d :: l => strictL l fun l' => K (d :: l')
theorem strictL.ex : ∀ {l : List D} {K : List D → Prop}, strictL l K → K l
  | [], _, h => h
  | _ :: l, K, h => strictL.ex (l := l) h
def KPut (i : Nat) (d : D) (O : Out) (y : R) (r : Rho) : Prop := onO (look r y) fun z => onO (itOf z) fun k => onP (bxL r i) fun ba bb => onO (ixN bb.length k) fun j => strictL (bb.set j d) fun l => strict (r.set i (some (.box ba (.L l)))) O.nx
theorem KPut.ex {i : Nat} {d : D} {O : Out} {y : R} {r : Rho} (h : KPut i d O y r) : ∃ k bo ds j, look r y = some (.int k) ∧ r[i]? = some (some (.box bo (.L ds))) ∧ ixN ds.length k = some j ∧ O.nx (r.set i (some (.box bo (.L (ds.set j d))))) := by
  obtain ⟨z, e1, h1⟩ := onO.ex h
  obtain ⟨k, e2, h2⟩ := onO.ex h1
  obtain ⟨ba, bb, e3, h3⟩ := onP.ex h2
  obtain ⟨j, e4, h4⟩ := onO.ex h3
  cases itOf_of e2
  exact ⟨k, ba, bb, j, e1, bxL_of e3, e4, h4.ex.ex⟩
def sPut (i : Nat) (ma mb : ME) : MS := fun r O => ma r fun x r1 => onP (hold r1 x.tmp) fun qa qb => rqB (isL qb i) (mb qb fun y r3 => KPut i qa O y.tmp r3)
theorem ds_put (hN : X.N[i]? = some x) (hv : Vis X.env.scope x) (ha : DE X a ma) (hb : DE X b mb) (hd : (x == ("__debug__" : Str)) = false := by decide) (hcd : (x == ("__classdict__" : Str)) = false := by decide)
    (hsub : ∀ v, assign (.Subscript (.Name x p) b pos') X.env v = (do
      let ov ← holding [v] (eval (.Name x p) X.env)
      let iv ← holding [v, ov] (eval b X.env)
      standAt pos'
      holding [v, ov, iv] (setItem ov iv v)
      release [v, ov, iv] []) := by intro _; rfl)
    (hs : swapsWithSole [.Subscript (.Name x p) b pos'] a pos.line X.env = pure false := by rfl) (hw : swappedStores [.Subscript (.Name x p) b pos'] a X.env = pure none := by rfl)
    (h1 : (assignEach [.Subscript (.Name x p) b pos'] X.env).map (·.2) = [assign (.Subscript (.Name x p) b pos') X.env] := by rfl) : DS X (.Assign [.Subscript (.Name x p) b pos'] a pos) (sPut i ma mb) := fun e =>
  PS.imp (ps_asg (ha.tmp e) (pg_sub (pe_var hN hv hd hcd) (hb.tmp e) set_list hsub) hs hw h1) fun D s H ⟨F, r, k, O, hm, h⟩ => ⟨F, r, k, fun x r1 => onP (hold r1 x) fun qa qb => rqB (isL qb i) (mb qb fun y r3 => KPut i qa O y.tmp r3), hm, fun x r1 v F1 H1 hx k1 q t => by
    obtain ⟨d, r2, eh, hx2⟩ := onP.ex hx
    obtain ⟨hl, hp⟩ := rqB.ex hx2
    obtain ⟨F2, k2, q2, rp⟩ := t.hold k1 eh
    obtain ⟨bo, ds, hbx⟩ := isL_of hl
    obtain ⟨pp, o, g1, g2, g3, g4⟩ := k2.box i bo _ hbx
    refine ⟨.ref pp, g1, F2, r2, k2, fun y r3 => KPut i d O y r3, hp, ?_⟩
    intro y r3 v3 F3 H3 hy k3 q3 t3
    obtain ⟨k, bo', ds', j, el, er, ej, hn⟩ := KPut.ex hy
    obtain ⟨pp', o', w1, w2, w3, w4⟩ := k3.box i bo' _ er
    rw [g1] at w1; cases w1
    cases w3 with | L w3 =>
    have ei := (t3.look k3 el).int
    refine ⟨pp, _, k, j, rfl, ei, w2, by rw [w3.length]; exact ej, ?_⟩
    exact h.nx _ s F3 _ hn (k3.write er g1 (.L (w3.set (rp.mono q3) j))) ((q.trans q2).trans q3)⟩
/-- an operation with a datum as its answer -/
structure IpK where
  f : F2
  k : D → D → (D → Prop) → Prop
  ok : ∀ d1 d2 K, k d1 d2 K → ∃ z, f d1 d2 = some (.val z) ∧ K z
/-- x[a] op= b, x a box -/
def KAugS2 (i : Nat) (o : IpK) (k : Int) (d0 : D) (O : Out) (y : R) (r : Rho) : Prop := onO (look r y) fun d1 => o.k d0 d1 fun z => onP (bxL r i) fun ba bb => onO (ixN bb.length k) fun j => strictL (bb.set j z) fun l => strict (r.set i (some (.box ba (.L l)))) O.nx
theorem KAugS2.ex {i : Nat} {o : IpK} {k : Int} {d0 : D} {O : Out} {y : R} {r : Rho} (h : KAugS2 i o k d0 O y r) : ∃ d1 z ds' j bo', look r y = some d1 ∧ o.f d0 d1 = some (.val z) ∧ r[i]? = some (some (.box bo' (.L ds'))) ∧ ixN ds'.length k = some j ∧ O.nx (r.set i (some (.box bo' (.L (ds'.set j z))))) := by
  obtain ⟨d1, e1, h1⟩ := onO.ex h
  obtain ⟨z, e2, h2⟩ := o.ok _ _ _ h1
  obtain ⟨ba, bb, e3, h3⟩ := onP.ex h2
  obtain ⟨j, e4, h4⟩ := onO.ex h3
  exact ⟨d1, z, bb, j, ba, e1, e2, bxL_of e3, e4, h4.ex.ex⟩
def KAugS1 (i : Nat) (o : IpK) (mb : ME) (O : Out) (x : R) (r : Rho) : Prop := onO (look r x) fun w => onO (itOf w) fun k => onP (bxL r i) fun ba bb => onO (atI bb k) fun d0 => mb r fun y r2 => KAugS2 i o k d0 O y.tmp r2
theorem KAugS1.ex {i : Nat} {o : IpK} {mb : ME} {O : Out} {x : R} {r : Rho} (h : KAugS1 i o mb O x r) : ∃ k bo ds d0, look r x = some (.int k) ∧ r[i]? = some (some (.box bo (.L ds))) ∧ atI ds k = some d0 ∧ mb r fun y r2 => KAugS2 i o k d0 O y.tmp r2 := by
  obtain ⟨w, e1, h1⟩ := onO.ex h
  obtain ⟨k, e2, h2⟩ := onO.ex h1
  obtain ⟨ba, bb, e3, h3⟩ := onP.ex h2
  obtain ⟨d0, e4, h4⟩ := onO.ex h3
  cases itOf_of e2
  exact ⟨k, ba, bb, d0, e1, bxL_of e3, e4, h4⟩
end
end DL
namespace DL
open PySem L2 PyProof.Rows
mutual
/-- u is the datum d, all of it in K -/
def rpB (K : Fg) : Nat → Value → D → Bool
  | 0, _, _ => false
  | n + 1, u, d => match d, u with
    | .none, .none => true
    | .bool a, .bool b => a == b
    | .int a, .int b _ => a == b
    | .str a, .str b _ => a == b
    | .tuple ds, .ref a => match K.lookup a with
      | some ⟨.type "tuple", none, .seq its _, _⟩ => (decide (its.size ≤ sizeLine) && ds.all noInt) && rpBs K n its.toList ds
      | _ => false
    | _, _ => false
def rpBs (K : Fg) : Nat → List Value → List D → Bool
  | 0, _, _ => false
  | n + 1, us, ds => match us, ds with
    | [], [] => true
    | u :: us, d :: ds => rpB K n u d && rpBs K n us ds
    | _, _ => false
end
section
variable {X : Cx} {a b c : Expr} {ma mb mc : ME} {pos p p' apos : Pos} {x : Str} {i : Nat}
abbrev Tab := List (Str × Str)
def tLook : Tab → Str → Option Str
  | [], _ => none
  | p :: r, x => if p.1 = x then some p.2 else tLook r x
def tabB (P : Params) : List DictEntry → Tab → Bool
  | [], [] => true
  | ⟨h, .str a _, .str b _⟩ :: r, (x, y) :: t => a == x && b == y && h == PyData.keyHash P x && tabB P r t
  | _, _ => false
theorem tab_lit {P : Params} : ∀ {es : List DictEntry} {t : Tab}, tabB P es t = true → PySem.W.KeysLit P es ∧ ∀ x, (es.find? fun e => Value.isStrOf x e.key).map (·.val) = none ∧ tLook t x = none ∨ ∃ y k, (es.find? fun e => Value.isStrOf x e.key).map (·.val) = some (.str y k) ∧ tLook t x = some y
  | [], [], _ => ⟨trivial, fun x => .inl ⟨rfl, rfl⟩⟩
  | [], _ :: _, h => by unfold tabB at h; cases h
  | e :: es, [], h => by unfold tabB at h; simp at h
  | e :: es, (x0, y0) :: t, h => by
    unfold tabB at h
    split at h
    · rename_i z1 z2; cases z2
    · rename_i h0 a0 k0 b0 k1 r1 x1 y1 t1 e1 e2
      injection e1 with q1 q2
      injection e2 with q3 q4
      injection q3 with q5 q6
      subst q1 q2 q4 q5 q6
      simp only [Bool.and_eq_true, beq_iff_eq] at h
      obtain ⟨⟨⟨g1, g2⟩, g3⟩, g4⟩ := h
      subst g1 g2
      obtain ⟨i1, i2⟩ := tab_lit g4
      refine ⟨⟨⟨_, _, rfl, g3⟩, i1⟩, fun x => ?_⟩
      by_cases q : a0 = x
      · subst q
        refine .inr ⟨b0, k1, ?_, by simp [tLook]⟩
        simp [List.find?_cons, Value.isStrOf]
      · rcases i2 x with ⟨j1, j2⟩ | ⟨y, k, j1, j2⟩
        · refine .inl ⟨?_, by simp [tLook, q, j2]⟩
          rw [List.find?_cons, show Value.isStrOf x (Value.str a0 k0) = false from by simp [Value.isStrOf, q]]
          exact j1
        · refine .inr ⟨y, k, ?_, by simp [tLook, q, j2]⟩
          rw [List.find?_cons, show Value.isStrOf x (Value.str a0 k0) = false from by simp [Value.isStrOf, q]]
          exact j1
    · cases h
/-- at a the dict t of the module -/
structure KTab (X : Cx) (a : Addr) (t : Tab) : Prop where
  ex : ∃ es n, X.K.lookup a = some ⟨.type "dict", none, .dict es n, #[]⟩ ∧ tabB X.w.params es.toList t = true
  sys : (a == sysModules) = false
theorem KTab.of {ad : Addr} {t : Tab} {es : Array DictEntry} {n : Nat} (hl : X.K.lookup ad = some ⟨.type "dict", none, .dict es n, #[]⟩) (hb : tabB X.w.params es.toList t = true) (hs : (ad == sysModules) = false) : KTab X ad t := ⟨⟨es, n, hl, hb⟩, hs⟩
theorem KTab.map {ad : Addr} {t : Tab} {pins : List (Addr × Obj)} {σ : L2.St} {H : Hp} {s : Shared} (k : KTab X ad t) (I : L2.Inv X pins σ H s) : ∃ f : Str → Option Value, s.heap.MapOf (strKind X.prog X.w) ad f ∧ ∀ x, f x = none ∧ tLook t x = none ∨ ∃ y k, f x = some (.str y k) ∧ tLook t x = some y := by
  obtain ⟨es, n, hl, hb⟩ := k.ex
  obtain ⟨h1, h2⟩ := tab_lit hb
  refine ⟨_, PySem.W.mapOf_K (prog := X.prog) (w := X.w) I.kIn hl h1, fun x => ?_⟩
  obtain ⟨l⟩ := es
  have := h2 x
  unfold findBy
  rw [List.find?_toArray]
  exact this
def tsOf : D → Option Str
  | .str x => some x
  | _ => none
theorem tsOf_of {d : D} {x : Str} (h : tsOf d = some x) : d = .str x := by
  unfold tsOf at h
  split at h
  · cases h; rfl
  · cases h
/-- what is looked at is a text -/
def onT (r : Rho) (x : R) (K : Str → Prop) : Prop := onO (look r x) fun d => onO (tsOf d) K
theorem onT.ex {r : Rho} {x : R} {K : Str → Prop} (h : onT r x K) : ∃ z, look r x = some (.str z) ∧ K z := by
  obtain ⟨d, e1, h1⟩ := onO.ex h
  obtain ⟨z, e2, h2⟩ := onO.ex h1
  cases tsOf_of e2
  exact ⟨z, e1, h2⟩
end
end DL
namespace DL
open PySem L2 PyProof.Rows
def kOf : D → Option Key
  | .int i => some (.inl i)
  | .str x => some (.inr x)
  | _ => none
theorem kOf_kD (k : Key) : kOf (kD k) = some k := by cases k <;> rfl
theorem kOf_some {d : D} {k : Key} (h : kOf d = some k) : d = kD k := by
  cases d <;> simp [kOf] at h <;> subst h <;> rfl
theorem Rp.key {K : Fg} {F : Hp} {v : V} {k : Key} (h : Rp K F v (kD k)) : v = kV k := by
  cases k with
  | inl i => cases h; rfl
  | inr i => cases h; rfl
theorem Lk.key {K : Fg} {F H : Hp} {v : V} {d : D} {k : Key} (h : Lk K F H v d) (e : kOf d = some k) : v = kV k := by
  cases kOf_some e
  cases k with
  | inl i => exact h.int
  | inr i => exact h.str
def dGet (kvs : List (D × D)) (k : Key) : Option D := (kvs.find? fun p => decide (kOf p.1 = some k)).map (·.2)
def keyed (kvs : List (D × D)) : Bool := kvs.all fun p => (kOf p.1).isSome
theorem val_get {K : Fg} {F : Hp} {k : Key} : ∀ {kvs : List (Key × V)} {ds : List (D × D)}, ds.map (·.1) = kvs.map (fun p => kD p.1) → RpA K F (kvs.map (·.2)) (ds.map (·.2)) →
    (valV kvs k = none ∧ dGet ds k = none) ∨ ∃ v d, valV kvs k = some v ∧ dGet ds k = some d ∧ Rp K F v d
  | [], [], _, _ => .inl ⟨rfl, rfl⟩
  | [], _ :: _, e, _ => by cases e
  | _ :: _, [], e, _ => by cases e
  | (k0, v0) :: kvs, (dk, dv) :: ds, e, r => by
    simp only [List.map_cons, List.cons.injEq] at e
    cases r with | cons r1 r2 =>
    obtain ⟨e1, e2⟩ := e
    simp only at e1 r1
    subst e1
    by_cases q : k0 = k
    · subst q
      exact .inr ⟨v0, dv, valV_pos rfl, by simp [dGet, List.find?_cons, kOf_kD], r1⟩
    · have := val_get (k := k) e2 r2
      rw [valV_neg (show ¬ (k0, v0).1 = k from q)]
      have hh : dGet ((kD k0, dv) :: ds) k = dGet ds k := by simp [dGet, List.find?_cons, kOf_kD, q]
      rw [hh]
      exact this
/-- a dict with plain keys, seen -/
theorem Lk.dk {K : Fg} {F H : Hp} {v : V} {ds : List (D × D)} (h : Lk K F H v (.dict ds)) (hs : Sub F H) (hk : keyed ds = true) (hn : ds ≠ []) : ∃ a kvs, v = .ref a ∧ Rd H a (.dK kvs) ∧ ds.map (·.1) = kvs.map (fun p => kD p.1) ∧ RpA K F (kvs.map (·.2)) (ds.map (·.2)) := by
  have no : ∀ kvs : List (List Key × V), ds.map (·.1) = kvs.map (fun p => ktD p.1) → False := by
    intro kvs e
    cases ds with
    | nil => exact hn rfl
    | cons d ds =>
      cases kvs with
      | nil => cases e
      | cons p kvs =>
        simp only [List.map_cons, List.cons.injEq] at e
        simp only [keyed, List.all_cons, Bool.and_eq_true] at hk
        rw [e.1] at hk
        simp [ktD, kOf] at hk
  generalize hd : (PyData.dict ds : D) = d at h
  cases h with
  | rp a =>
    subst hd
    cases a with
    | dct g1 g2 g3 g4 =>
      rcases g1 with ⟨kvs, w1, w2, w3⟩ | ⟨kvs, w1, w2, w3⟩
      · subst w2 w3 g4
        exact ⟨_, kvs, rfl, hs.rd w1, g3, g2⟩
      · subst w2 w3 g4
        exact (no kvs g3).elim
  | @mo p o m a b =>
    cases b with
    | L _ => cases hd
    | K w1 w2 => cases hd; exact ⟨p, _, rfl, .inl a, w1, w2⟩
    | T w1 w2 => cases hd; exact (no _ w1).elim
section
variable {X : Cx} {a b c : Expr} {ma mb mc : ME} {pos p p' apos : Pos} {x : Str} {i : Nat}
theorem ix_dict (hu : X.A.units + 1 < cLine) : IxR X (fun x y H Q => ∃ a v, x = .ref a ∧ DGet H a y (some v) ∧ Q v H) := by
  rintro value slice pins s σ H _ y v u Q I rx ry ⟨a, w, rfl, hg, q⟩ hs
  obtain rfl : v = Value.ref a := rx
  exact tail_any (dict_typeIs I hg) slot_dict_getitem.lookup (d_getItem hu I hg ry fun w' s' I' r' => ⟨w, H, I', r', q⟩) hs
def fIxD : F2 := fun a b => match a with
  | .dict kvs => if keyed kvs then match kOf b with
    | some k => match dGet kvs k with
      | some d => some (.val d)
      | none => none
    | none => none
    else none
  | _ => none
def fIxA : F2 := orF fIx fIxD
theorem dGet_ne {kvs : List (D × D)} {k : Key} {d : D} (h : dGet kvs k = some d) : kvs ≠ [] := fun e => by subst e; cases h
def kIxA : D → D → (R → Prop) → Prop
  | .list ds, .int i, K => onO (atI ds i) fun d => K (.val d)
  | .tuple ds, .int i, K => onO (atI ds i) fun d => K (.val d)
  | .str x, .int i, K => Rq (x.length ≤ sizeLine) (onO (atI x.cps.toList i) fun c => K (.val (.str ⟨#[c]⟩)))
  | .dict kvs, b, K => rqB (keyed kvs) (onO (kOf b) fun k => onO (dGet kvs k) fun d => K (.val d))
  | _, _, _ => False
def oIxA : OpK := ⟨fIxA, kIxA, fun d1 d2 K h => by
  unfold kIxA at h
  split at h
  · obtain ⟨d, e, q⟩ := onO.ex h
    exact ⟨_, by simp only [fIxA, orF, fIx, e], q⟩
  · obtain ⟨d, e, q⟩ := onO.ex h
    exact ⟨_, by simp only [fIxA, orF, fIx, e], q⟩
  · obtain ⟨c, e, q⟩ := onO.ex (Rq.a h)
    exact ⟨_, by simp only [fIxA, orF, fIx, if_pos (Rq.c h), e], q⟩
  · obtain ⟨h1, h2⟩ := rqB.ex h
    obtain ⟨k, e, q⟩ := onO.ex h2
    obtain ⟨d, e2, q2⟩ := onO.ex q
    exact ⟨_, by simp only [fIxA, orF, fIx, fIxD, h1, if_true, e, e2], q2⟩
  · exact h.elim⟩
theorem de_ixA (hu : X.A.units + 1 < cLine) (ha : DE X a ma) (hb : DE X b mb) (hs : PlainIx b := by intro _ _; rfl) : DE X (.Subscript a b pos) (mOp oIxA ma mb) := fun e =>
  PE.imp (pe_ix (IxR.or (ix_dict hu) (IxR.or ix_list (IxR.or ix_tup ix_str))) (ha.tmp e) (hb.tmp e) hs) fun s H Q h => mOp_read (fun e F r s H v1 v2 d1 d2 z Q k l1 l2 ef w => by
    simp only [oIxA] at ef
    unfold fIxA orF at ef
    split at ef
    · rename_i y hy
      cases ef
      unfold fIx at hy
      split at hy
      · split at hy
        · rename_i hd; cases hy
          obtain ⟨p, xs, e1, h1, r1⟩ := l1.lst k.sub
          obtain ⟨v, g1, g2⟩ := r1.at hd
          exact .inr (.inl ⟨p, xs, _, v, e1, l2.int, .inl h1, g1, w _ F H k (Sub.refl F) (.val g2)⟩)
        · cases hy
      · split at hy
        · rename_i hd; cases hy
          obtain ⟨p, xs, e1, h1, r1, _⟩ := l1.tup k.sub
          obtain ⟨v, g1, g2⟩ := r1.at hd
          exact .inr (.inr (.inl ⟨p, xs, _, v, e1, l2.int, h1, g1, w _ F H k (Sub.refl F) (.val g2)⟩))
        · cases hy
      · split at hy
        · rename_i hz
          split at hy
          · rename_i hd; cases hy
            exact .inr (.inr (.inr ⟨_, _, _, l1.str, l2.int, hz, hd, w _ F H k (Sub.refl F) (.val (.str _))⟩))
          · cases hy
        · cases hy
      · cases hy
    · unfold fIxD at ef
      split at ef
      · split at ef
        · rename_i hk
          split at ef
          · rename_i k0 ek
            split at ef
            · rename_i d ed; cases ef
              obtain ⟨ad, kvs, e1, h1, h2, h3⟩ := l1.dk k.sub hk (dGet_ne ed)
              rcases val_get (k := k0) h2 h3 with ⟨_, n⟩ | ⟨v, d', g1, g2, g3⟩
              · rw [ed] at n; cases n
              · rw [ed] at g2; cases g2
                have ey := l2.key ek
                subst ey
                refine .inl ⟨ad, v, e1, ?_, w _ F H k (Sub.refl F) (.val g3)⟩
                have := (show DGet _ ad (kV k0) (valV kvs k0) from .inl ⟨kvs, k0, h1, rfl, rfl⟩)
                rw [g1] at this
                exact this
            · cases ef
          · cases ef
        · cases ef
      · cases ef) h
inductive DPs (X : Cx) : List (Option Expr) → List Expr → List (ME × ME) → Prop
  | nil : DPs X [] [] []
  | cons {k v : Expr} {ks : List (Option Expr)} {vs : List Expr} {mk mv : ME} {ms : List (ME × ME)} : DE X k mk → DE X v mv → DPs X ks vs ms → DPs X (some k :: ks) (v :: vs) ((mk, mv) :: ms)
def tEx (K : Fg) (m : ME) : TE := fun s H Q => ∃ e, Tt K e (mTmp m) s H Q
theorem DPs.pps {ks : List (Option Expr)} {vs : List Expr} {ms : List (ME × ME)} (h : DPs X ks vs ms) : PPs X pos ks vs (ms.map fun p => (tEx X.K p.1, tEx X.K p.2)) := by
  induction h with
  | nil => exact pps_nil
  | cons h1 h2 _ ih => exact pps_cons ⟨fun pins s σ H Q I ⟨e, q⟩ => (h1.tmp e).run pins s σ H Q I q⟩ ⟨fun pins s σ H Q I ⟨e, q⟩ => (h2.tmp e).run pins s σ H Q I q⟩ ih
theorem merge_new : ∀ (more kvs : List (Key × V)), (kvs.map (·.1) ++ more.map (·.1)).Nodup → mergeK kvs more = kvs ++ more
  | [], kvs, _ => by simp [mergeK]
  | p :: r, kvs, h => by
    have hn : valV kvs p.1 = none := by
      rw [← Option.isNone_iff_eq_none, ← Option.not_isSome, Bool.not_eq_true', ← valV_any]
      rw [List.any_eq_false]
      intro q hq e
      have e := of_decide_eq_true e
      rw [List.map_cons] at h
      have := (List.nodup_append.mp h).2.2 q.1 (List.mem_map_of_mem hq) p.1 List.mem_cons_self
      exact this e
    show mergeK (putK kvs p.1 p.2) r = _
    rw [putK_new _ hn, merge_new r]
    · simp
    · simpa using h
end
end DL
namespace DL
open PySem L2 PyProof.Rows
abbrev FS := Str → List D → Option R
def SmD (X : Cx) (id : String) (f : FS) : Prop := ∃ rr : V → List V → Hp → VK → Prop, MtR X id rr ∧ ∀ (e : En) (F : Hp) (r : Rho) (s : L2.St) (H : Hp) (x : Str) (vs : List V) (ds : List D) (z : R) (Q : VK),
  Ok X.K e F r s H → LkA X.K F H vs ds → f x ds = some z → (∀ v F' H', Ok X.K e F' r s H' → Sub F F' → RR X.K e F' r s H' z v → Q v H') → rr (.str x) vs H Q
/-- a method of texts and what it does, told so that it runs -/
structure SmK where
  f : FS
  k : Str → List D → (R → Prop) → Prop
  ok : ∀ x ds K, k x ds K → ∃ z, f x ds = some z ∧ K z
def stOf : R → Option Str
  | .val (.str x) => some x
  | _ => none
theorem stOf_of {x : R} {z : Str} (h : stOf x = some z) : x = .val (.str z) := by
  unfold stOf at h
  split at h
  · cases h; rfl
  · cases h
def mSm (o : SmK) (ma : ME) (ms : MA) : ME := fun r P => ma r fun x r1 => onO (stOf x) fun z => ms r1 fun xs r2 => onO (looks r2 xs) fun ds => o.k z ds fun w => P w r2
section
variable {X : Cx} {a b c : Expr} {ma mb mc : ME} {pos p p' apos : Pos} {x : Str} {i : Nat} {es : List Expr} {ms : MA}
theorem de_sm {id : String} {name : Str} {o : SmK} (hm : SmD X id o.f) (slot : Slot "str" name id) (hty : typeOf (.builtin id) = pure (.type "method_descriptor")) (ho : DE X b mb) (ha : DA X (a :: es) ms)
    (hbase : attributeBase b name X.env (eval b X.env) = eval b X.env := by rfl)
    (hfew : ((backTo pos (starEach (a :: es) X.env)).all (fun x => !x.1) && (backToKw pos (keywordEach [] X.env)).all (fun x => x.1.isSome) && decide ((a :: es).length + ([] : List Keyword).length + (if ([] : List Keyword).isEmpty then 0 else 1) < 30)) = true := by rfl)
    (hline : (apos.endLine == pos.line) = true := by rfl) (hs : starEach (a :: es) X.env = (false, eval a X.env) :: starEach es X.env := by rfl) (hplain : (backTo pos (starEach es X.env)).any (·.1) = false := by rfl) : DE X (.Call (.Attribute b name apos) (a :: es) [] pos) (mSm o mb ms) := fun e => by
  obtain ⟨rr, hr, hq⟩ := hm
  refine PE.imp (pe_bm PySem.F.plainAttrs_str slot hty hr (ho e) (ha e) hbase hfew hline hs hplain) fun s H Q ⟨F, r, k, P, hm, hP⟩ => ⟨F, r, k, _, hm, ?_⟩
  intro x r1 v F1 H1 hx1 k1 q1 t1
  obtain ⟨z, ez, hms⟩ := onO.ex hx1
  have e1 := stOf_of ez
  subst e1
  cases t1 with | val t1 =>
  cases t1
  refine ⟨rfl, F1, r1, k1, _, hms, ?_⟩
  intro xs r2 vs F2 H2 hx2 k2 q2 t2
  obtain ⟨ds, el, hx3⟩ := onO.ex hx2
  obtain ⟨w, ef, hp⟩ := o.ok _ _ _ hx3
  exact hq e F2 r2 s H2 z vs ds w Q k2 (t2.looks k2 el) ef fun v F' H' k' q' t' => hP w r2 v F' H' hp k' ((q1.trans q2).trans q') t'
/-- the lengths of a join -/
def joinLen (a : Str) (ys : List Str) : Nat := (ys.map (·.length)).sum + ys.length * a.length
def fJoin : FS := fun x ds => match ds with
  | [d] => match seqD d with
    | some es => match strsOf es with
      | some ys => if joinLen x ys ≤ 16777216 then some (.val (.str (Txt.join x ys))) else none
      | none => none
    | none => none
  | _ => none
theorem smd_join : SmD X "str.join" fJoin := by
  refine ⟨_, mt_join, fun e F r s H x vs ds z Q k l ef w => ?_⟩
  unfold fJoin at ef
  split at ef
  · rename_i d
    split at ef
    · rename_i es' e1
      split at ef
      · rename_i ys e2
        split at ef
        · rename_i hz; cases ef
          cases l with | cons l1 l2 =>
          cases l2
          cases d with
          | list ds =>
            cases e1
            obtain ⟨p, xs, g1, g2, g3⟩ := l1.lst k.sub
            subst g1
            refine ⟨x, p, ys, rfl, rfl, .inl ?_, hz, w _ F H k (Sub.refl F) (.val (.str _))⟩
            rw [← g3.strs e2]
            exact .inl g2
          | tuple ds =>
            cases e1
            obtain ⟨p, xs, g1, g2, g3, _⟩ := l1.tup k.sub
            subst g1
            refine ⟨x, p, ys, rfl, rfl, .inr ?_, hz, w _ F H k (Sub.refl F) (.val (.str _))⟩
            rw [← g3.strs e2]
            exact g2
          | _ => cases e1
        · cases ef
      · cases ef
    · cases ef
  · cases ef
end
def kJoin (x : Str) (ds : List D) (K : R → Prop) : Prop := match ds with
  | [d] => onO (seqD d) fun es => onO (strsOf es) fun ys => Rq (joinLen x ys ≤ 16777216) (K (.val (.str (Txt.join x ys))))
  | _ => False
def jJoin : SmK := ⟨fJoin, kJoin, fun x ds K h => by
  unfold kJoin at h
  split at h
  · obtain ⟨es, e1, h1⟩ := onO.ex h
    obtain ⟨ys, e2, h2⟩ := onO.ex h1
    exact ⟨_, by simp only [fJoin, e1, e2, if_pos (Rq.c h2)], Rq.a h2⟩
  · exact h.elim⟩
end DL
namespace DL
open PySem L2 PyProof.Rows
theorem RpA.ofInts {K : Fg} {F : Hp} : ∀ (ns : List Int), RpA K F (ns.map V.int) (ns.map PyData.int)
  | [] => .nil
  | n :: ns => .cons (.int n) (RpA.ofInts ns)
def cutI (ns : List Int) (lo hi : Option Int) : List Int := (ns.drop (HT.sIx ns.length 0 lo)).take (HT.sIx ns.length ns.length hi - HT.sIx ns.length 0 lo)
theorem cutI_D (ns : List Int) (lo hi : Option Int) : cutD (ns.map PyData.int) lo hi = (cutI ns lo hi).map PyData.int := by
  unfold cutD cutI
  rw [List.length_map, List.map_take, List.map_drop]
def scOf : R → Option (List Int)
  | .ob (.scr ns) => some ns
  | _ => none
theorem scOf_of {x : R} {ns : List Int} (h : scOf x = some ns) : x = .scr ns := by
  unfold scOf at h
  split at h
  · cases h; rfl
  · cases h
def mSlS (ma : ME) (ml mh : MO') : ME := fun r P => ma r fun x r1 => ml r1 fun l r2 => mh r2 fun h r3 => onO (scOf x) fun ns => P (.own (.L ((cutI ns l h).map .int))) r3
section
variable {X : Cx} {a b c : Expr} {ma mb mc : ME} {pos p p' apos : Pos} {x : Str} {i : Nat} {es : List Expr} {ms : MA} {lo hi : Option Expr} {ml mh : MO'} {p2 : Pos}
theorem de_sliceS (ha : DE X a ma) (hl : DO X lo ml) (hh : DO X hi mh) : DE X (.Subscript a (.Slice lo hi none p2) pos) (mSlS ma ml mh) := fun e =>
  PE.imp (pe_slice sl_list (ha e) (hl e) (hh e)) fun s H Q ⟨F, r, k, P, hm, hP⟩ => ⟨F, r, k, _, hm, fun x r1 v F1 H1 hx k1 q1 t1 =>
    ⟨F1, r1, k1, _, hx, fun l r2 F2 H2 hx2 k2 q2 => ⟨F2, r2, k2, _, hx2, fun h r3 F3 H3 hx3 k3 q3 => by
      obtain ⟨ns, en, hp⟩ := onO.ex hx3
      have e1 := scOf_of en
      subst e1
      cases t1 with | ob g =>
      cases g with | scr g =>
      have q := (q1.trans q2).trans q3
      refine ⟨_, _, rfl, ((q2.trans q3).trans k3.sub).sqL g, fun p np => hP _ r3 _ F3 _ hp (k3.alloc np) q ?_⟩
      rw [← cutI_D]
      exact .newL k3 np ((RpA.ofInts ns).cut l h)⟩⟩⟩
end
end DL
namespace DL
open PySem L2 PyProof.Rows
section
variable {P : Program} {w : World} {K : Fg} {mg : Str → Option Value} {base : Heap} {x qual : Str} {params : Arguments} {body : List Stmt} {scope : Scope} {dvs : List V} {kws : List (Str × V)} {f : Addr} {fd : FuncData}
/-- a def of the text by its body -/
theorem fnd_def {N ps : List Str} {k : Nat} {m : MS} (F : FunD K x qual params body scope dvs kws f fd) (S : FnScope N ps scope)
    (hbody : ∀ (cdv : Value) (A : Around) (outer : List Env) (s : Shared) (H : Hp) (E : XK), Rm k (A.deeper (envOfC qual scope s.heap.objs.size f cdv)) → A.guards = some [] → DSs (cxOf CX0 P w K mg base N qual scope f cdv A outer s H E).nox body m) : FnD P w K mg base (k + 1) f fd ps (ctOf N.length m) := by
  obtain ⟨oc, od, dV, kV, doc, pm, an, cdv, ct, osl, rfl, lk, hcd, _, _⟩ := F.ex
  exact fnd_of lk hcd S fun A outer s H E hr hg => hbody cdv A outer s H E hr hg
end
end DL
namespace DL
open PySem L2 PyProof.Rows
theorem u66 {k : Nat} {A : Around} (r : Rm k A) : A.units + 66 < cLine := by have := r.un; omega
theorem u65 {k : Nat} {A : Around} (r : Rm k A) : A.units + 65 < cLine := by have := r.un; omega
theorem u64 {k : Nat} {A : Around} (r : Rm k A) : A.units + 64 < cLine := by have := r.un; omega
theorem u1 {k : Nat} {A : Around} (r : Rm k A) : A.units + 1 < cLine := by have := r.un; omega
/-- the module's name x is the table t -/
def TabAt (w : World) (K : Fg) (mg : Str → Option Value) (x : Str) (t : Tab) : Prop := ∃ a es n, mg x = some (.ref a) ∧ K.lookup a = some ⟨.type "dict", none, .dict es n, #[]⟩ ∧ tabB w.params es.toList t = true ∧ (a == sysModules) = false
/-- the module's name x is a def that keeps the contract c -/
structure Def (P : Program) (w : World) (K : Fg) (mg : Str → Option Value) (base : Heap) (k : Nat) (x : Str) (n : Nat) (ks : List Str) (G : List R → List R → List R) (c : Ct) : Prop where
  ex : ∃ f fd ps, mg x = some (.ref f) ∧ PySem.W.keepIn K (.ref f) = true ∧ FnD P w K mg base k f fd ps c ∧ Bd K fd ps n ks G
section
variable {X : Cx} {a b c : Expr} {ma mb mc : ME} {pos p p' apos : Pos} {x : Str} {i : Nat} {es : List Expr} {ms mk : MA} {kws : List Keyword} {k n : Nat} {ks : List Str} {G : List R → List R → List R} {ct : Ct} {t : Tab}
theorem de_def (h : Def X.prog X.w X.K X.mg X.base k x n [] G ct) (hr : Rm k X.A) (hgu : X.A.guards = some []) (hg : Gl X x)
    (ha : DA X (a :: es) ms) (hdb : (x == ("__debug__" : Str)) = false := by decide) (he : starEach (a :: es) X.env = (false, eval a X.env) :: starEach es X.env := by rfl) (hpl : (backTo pos (starEach es X.env)).any (·.1) = false := by rfl) :
    DE X (.Call (.Name x p) (a :: es) [] pos) (mFnK ct G n 0 ms aNil) := by
  obtain ⟨f, fd, ps, h1, h2, h3, h4⟩ := h.ex
  exact de_fn h3 hr hgu hg h1 h2 h4 ha hdb he hpl
theorem de_defK0 (h : Def X.prog X.w X.K X.mg X.base k x 0 ks G ct) (hr : Rm k X.A) (hgu : X.A.guards = some []) (hg : Gl X x)
    (hkw : TAk X kws mk) (hall : (backToKw pos (keywordEach kws X.env)).all (·.1.isSome) = true := by rfl) (hks : (backToKw pos (keywordEach kws X.env)).filterMap (·.1) = ks := by rfl)
    (hdb : (x == ("__debug__" : Str)) = false := by decide)
    (hpl : ((backTo pos (starEach [] X.env)).any (·.1) || (backToKw pos (keywordEach kws X.env)).any (·.1.isNone)) = false := by rfl) : DE X (.Call (.Name x p) [] kws pos) (mFnK ct G 0 ks.length aNil mk) := by
  obtain ⟨f, fd, ps, h1, h2, h3, h4⟩ := h.ex
  exact de_fnK0 h3 hr hgu hg h1 h2 h4 hkw hall hks hdb hpl
end
def conB (K : Fg) (c : Str × D) : Bool := match PySem.W.nsIn K mainGlobals c.1 with
  | some (some u) => rpB K 40 u c.2
  | _ => false
def entV (e : DictEntry) : Option (Str × Int × Str) := match e.key, e.val with
  | .str x _, .str y _ => some (x, e.hash, y)
  | _, _ => none
def tabV (K : Fg) (x : Str) : Option (List (Option (Str × Int × Str))) := match PySem.W.nsIn K mainGlobals x with
  | some (some (.ref a)) => match K.lookup a with
    | some ⟨.type c, none, .dict es _, sl⟩ => (match decide (c = "dict") && (sl.isEmpty && !(a == sysModules)) with
      | true => some (es.toList.map entV)
      | false => none)
    | _ => none
  | _ => none
def tabW (P : Params) (t : Tab) : List (Option (Str × Int × Str)) := t.map fun p => some (p.1, PyData.keyHash P p.1, p.2)
theorem tabB_of {P : Params} : ∀ {es : List DictEntry} {t : Tab}, es.map entV = tabW P t → tabB P es t = true
  | [], [], _ => by rfl
  | [], _ :: _, h => by cases h
  | _ :: _, [], h => by cases h
  | e :: es, p :: t, h => by
    have h1 : entV e :: es.map entV = some (p.1, PyData.keyHash P p.1, p.2) :: tabW P t := h
    injection h1 with h2 h3
    have ih := tabB_of h3
    obtain ⟨hh, kk, vv⟩ := e
    obtain ⟨x, y⟩ := p
    unfold entV at h2
    split at h2
    · rename_i a ta b tb e1 e2
      simp only at e1 e2
      subst e1 e2
      have h4 := Option.some.inj h2
      simp only [Prod.mk.injEq] at h4
      obtain ⟨q1, q2, q3⟩ := h4
      subst q1 q2 q3
      unfold tabB
      simp [ih]
    · cases h2
abbrev AlX : Type := He.AlD × Bool × List (Option (List (Option (Str × Int × Str))))
def obsX (fa : List He.Fa) (fn : List He.DefD) (cs : List (Str × D)) (ts : List (Str × Tab)) (K : Fg) : AlX := (He.obsD fa fn K, cs.all (conB K), ts.map fun t => tabV K t.1)
def valX (fn : List He.DefD) (ts : List (Str × Tab)) (w : World) : AlX := (He.valD fn, true, ts.map fun t => some (tabW w.params t.2))
def SaysX (fa : List He.Fa) (fn : List He.DefD) (cs : List (Str × D)) (ts : List (Str × Tab)) (w : World) (K : Fg) : Prop := obsX fa fn cs ts K = valX fn ts w
section
variable {fa : List He.Fa} {fn : List He.DefD} {cs : List (Str × D)} {ts : List (Str × Tab)} {w : World} {K : Fg} {h : Heap} {mg : Str → Option Value}
theorem SaysX.defs (c : SaysX fa fn cs ts w K) : He.SaysD fa fn K := congrArg (fun z : AlX => z.1) c
theorem SaysX.tab (c : SaysX fa fn cs ts w K) (X : K.In h) (G : h.Ns mainGlobals mg) (i : Nat) {x : Str} {t : Tab} (e : ts[i]? = some (x, t) := by rfl) : TabAt w K mg x t := by
  have c1 : ts.map (fun t => tabV K t.1) = ts.map fun t => some (tabW w.params t.2) := congrArg (fun z : AlX => z.2.2) c
  have c2 : tabV K x = some (tabW w.params t) := by
    have a1 : (ts.map (fun t => tabV K t.1))[i]? = some (tabV K x) := by rw [List.getElem?_map, e]; rfl
    have a2 : (ts.map fun t => some (tabW w.params t.2))[i]? = some (some (tabW w.params t)) := by rw [List.getElem?_map, e]; rfl
    rw [c1, a2] at a1
    exact (Option.some.inj a1).symm
  unfold tabV at c2
  split at c2
  · rename_i a ha
    split at c2
    · rename_i cc es n sl hl
      split at c2
      · rename_i hq
        simp only [Bool.and_eq_true, decide_eq_true_eq] at hq
        obtain ⟨q1, q2, q3⟩ := hq
        have e2 : sl = #[] := Array.isEmpty_iff.mp q2
        subst q1 e2
        refine ⟨a, es, n, PySem.W.mg_of X G ha, hl, tabB_of (Option.some.inj c2), ?_⟩
        simpa using q3
      · cases c2
    · cases c2
  · cases c2
end
end DL
namespace DL
open PySem L2 PyProof.Rows
/-- values by places (false) and by names (true), put in order -/
def pick {α : Type} (ix : List (Bool × Nat)) (us ws : List α) : List α := match ix with
  | [] => []
  | p :: ix => match (if p.1 = true then ws[p.2]? else us[p.2]?) with
    | some u => u :: pick ix us ws
    | none => pick ix us ws
def ixOk (n m : Nat) (ix : List (Bool × Nat)) : Bool := ix.all fun p => if p.1 = true then decide (p.2 < m) else decide (p.2 < n)
theorem pick_length {α : Type} {us ws : List α} : ∀ {ix : List (Bool × Nat)}, ixOk us.length ws.length ix = true → (pick ix us ws).length = ix.length
  | [], _ => rfl
  | p :: ix, h => by
    simp only [ixOk, List.all_cons, Bool.and_eq_true] at h
    have ih := pick_length (us := us) (ws := ws) (ix := ix) (by simpa [ixOk] using h.2)
    obtain ⟨b, i⟩ := p
    cases b with
    | true =>
      have hi : i < ws.length := by simpa using h.1
      simp [pick, List.getElem?_eq_getElem hi, ih]
    | false =>
      have hi : i < us.length := by simpa using h.1
      simp [pick, List.getElem?_eq_getElem hi, ih]
theorem vals_none {vs : List V} {us : List Value} {i : Nat} (r : Vals vs us) (h : vs[i]? = none) : us[i]? = none := by
  rw [List.getElem?_eq_none_iff] at h ⊢
  rw [← r.length]; exact h
theorem pick_vals {vs zs : List V} {us ws : List Value} (r : Vals vs us) (q : Vals zs ws) : ∀ ix : List (Bool × Nat), Vals (pick ix vs zs) (pick ix us ws)
  | [] => .nil
  | p :: ix => by
    have ih := pick_vals r q ix
    obtain ⟨b, i⟩ := p
    cases b with
    | true =>
      cases e : zs[i]? with
      | none => simp [pick, e, vals_none q e, ih]
      | some z =>
        obtain ⟨u, e2, ru⟩ := q.get e
        simp only [pick, if_pos, e, e2]
        exact .cons ru ih
    | false =>
      cases e : vs[i]? with
      | none => simp [pick, e, vals_none r e, ih]
      | some z =>
        obtain ⟨u, e2, ru⟩ := r.get e
        simp only [pick, Bool.false_eq_true, if_false, e, e2]
        exact .cons ru ih
theorem rts_get {K : Fg} {F : Hp} {s : L2.St} {xs : List R} {vs : List V} (t : RTs K F s xs vs) (i : Nat) : (xs[i]? = none ∧ vs[i]? = none) ∨ ∃ x v, xs[i]? = some x ∧ vs[i]? = some v ∧ RT K F s x v := by
  induction t generalizing i with
  | nil => exact .inl ⟨by simp, by simp⟩
  | cons a _ ih =>
    cases i with
    | zero => exact .inr ⟨_, _, rfl, rfl, a⟩
    | succ i => simpa using ih i
theorem pick_rts {K : Fg} {F : Hp} {s : L2.St} {xs zs : List R} {vs ws : List V} (t : RTs K F s xs vs) (q : RTs K F s zs ws) : ∀ ix : List (Bool × Nat), RTs K F s (pick ix xs zs) (pick ix vs ws)
  | [] => .nil
  | p :: ix => by
    have ih := pick_rts t q ix
    obtain ⟨b, i⟩ := p
    cases b with
    | true =>
      rcases rts_get q i with ⟨e1, e2⟩ | ⟨x, v, e1, e2, r⟩
      · simp [pick, e1, e2, ih]
      · simp only [pick, if_pos, e1, e2]
        exact .cons r ih
    | false =>
      rcases rts_get t i with ⟨e1, e2⟩ | ⟨x, v, e1, e2, r⟩
      · simp [pick, e1, e2, ih]
      · simp only [pick, Bool.false_eq_true, if_false, e1, e2]
        exact .cons r ih
section
variable {K : Fg} {x qual : Str} {params : Arguments} {body : List Stmt} {scope : Scope} {dvs : List V} {kws : List (Str × V)} {f : Addr} {fd : FuncData} {ps : List Str}
/-- every parameter is written, by place or by name; no defaults but keyword-only ones -/
theorem Bd.pick (F : FunD K x qual params body scope [] kws f fd) (n : Nat) (ks : List Str) (ix : List (Bool × Nat)) (hl : ix.length = ps.length) (ho : ixOk n ks.length ix = true)
    (h : ∀ (kV doc pm : Value) (an : Option Addr) (cdv ct : Value) (us ws : List Value), us.length = n → ws.length = ks.length → bindArgs (PySem.W.fnOf x qual params body scope .none kV doc pm an cdv ct) ⟨us, ks.zip ws⟩ = pure (ps.zip (DL.pick ix us ws))) : Bd K fd ps n ks (DL.pick ix) := by
  obtain ⟨oc, od, dV, kV, doc, pm, an, cdv, ct, osl, rfl, lk, hcd, hD, hK⟩ := F.ex
  rcases hD with ⟨_, rfl⟩ | ⟨e, _⟩
  · exact ⟨fun us ws => DL.pick ix us ws, fun vs zs => DL.pick ix vs zs, ⟨fun s us ws X l1 l2 => .of_eq (h kV doc pm an cdv ct us ws l1 l2), fun r q => pick_vals r q ix⟩, fun vs zs l1 l2 => by rw [pick_length (by rw [l1, l2]; exact ho), hl], fun F s xs vs zs ws t q _ _ => pick_rts t q ix⟩
  · exact absurd rfl e
end
theorem Def.of {P : Program} {w : World} {K : Fg} {mg : Str → Option Value} {base : Heap} {k n : Nat} {x : Str} {ks : List Str} {G : List R → List R → List R} {c : Ct} {f : Addr} {fd : FuncData} {ps : List Str} (hm : mg x = some (.ref f)) (hk : PySem.W.keepIn K (.ref f) = true) (F : FnD P w K mg base k f fd ps c) (hb : Bd K fd ps n ks G) : Def P w K mg base k x n ks G c := ⟨⟨f, fd, ps, hm, hk, F, hb⟩⟩
end DL
namespace DL
open PySem L2 PyProof.Rows
theorem br_b {b : Bool} {A B : Prop} (h : b = true → A) (g : b = false → B) : brK b A B := by
  cases b with
  | true => exact h rfl
  | false => exact g rfl
theorem br_d {A B p : Prop} [Decidable p] (h : p → A) (g : ¬ p → B) : brK (decide p) A B := br_b (fun e => h (of_decide_eq_true e)) fun e => g (of_decide_eq_false e)
theorem on_i {α : Type} {o : Option α} {K : α → Prop} {a : α} (e : o = some a) (h : K a) : onO o K := by subst e; exact h
theorem loop_by {g : GT} {body : MS} {O : Out} (I : List D → Rho → Prop) (h : ∀ d ds r, I (d :: ds) r → (∀ r', I ds r' → loopM g body ds r' O) → loopM g body (d :: ds) r O) (h0 : ∀ r, I [] r → O.nx r) : ∀ ds r, I ds r → loopM g body ds r O
  | [], r, q => h0 r q
  | d :: ds, r, q => h d ds r q fun r' q' => loop_by I h h0 ds r' q'
theorem lc_by {vs : List Nat} {g : GT} {tt : MT} {te : ME} {P : List D → Rho → Prop} (I : List D → List D → Rho → Prop) (h : ∀ d ds acc r, I (d :: ds) acc r → (∀ acc' r', I ds acc' r' → lcM vs g tt te P ds acc' r') → lcM vs g tt te P (d :: ds) acc r) (h0 : ∀ acc r, I [] acc r → P acc r) : ∀ ds acc r, I ds acc r → lcM vs g tt te P ds acc r
  | [], acc, r, q => h0 acc r q
  | d :: ds, acc, r, q => h d ds acc r q fun acc' r' q' => lc_by I h h0 ds acc' r' q'
theorem at_ints (cs : List Int) {i : Int} (h0 : 0 ≤ i) (h1 : i < cs.length) : ∃ c, atI (cs.map PyData.int) i = some (.int c) := by
  have hl : i.toNat < cs.length := by omega
  refine ⟨cs[i.toNat], ?_⟩
  unfold atI ixN
  rw [List.length_map, if_pos h0, if_pos h1]
  simp [hl]
theorem mul_bd {a b A B : Int} (h1 : 0 ≤ a) (h2 : a ≤ A) (h3 : 0 ≤ b) (h4 : b ≤ B) : 0 ≤ a * b ∧ a * b ≤ A * B := ⟨Int.mul_nonneg h1 h3, Int.mul_le_mul h2 h4 h3 (by omega)⟩
theorem at_lt {α : Type} {ds : List α} {v : Int} (h0 : 0 ≤ v) (h1 : v < ds.length) : ∃ d, atI ds v = some d ∧ d ∈ ds := by
  have hl : v.toNat < ds.length := by omega
  refine ⟨ds[v.toNat], ?_, List.getElem_mem hl⟩
  unfold atI ixN
  rw [if_pos h0, if_pos h1]
  simp [hl]
theorem at_all {α : Type} {ds : List α} {v : Int} (p : α → Prop) (h0 : 0 ≤ v) (h1 : v < ds.length) (h : ∀ d ∈ ds, p d) : ∃ d, atI ds v = some d ∧ p d := by
  obtain ⟨d, e, m⟩ := at_lt h0 h1
  exact ⟨d, e, h d m⟩
theorem okR_of {i : Int} (h1 : -1000000000000000000 ≤ i) (h2 : i ≤ 1000000000000000000) : okR i = true := Nat.ble_eq_true_of_le (by omega)
end DL
namespace DL
open PySem L2 PyProof.Rows
def okS (x : Str) : Prop := ∀ c ∈ x.cps.toList, c < 1114112
theorem okS.ok {x : Str} (h : okS x) : PyData.strOk x = true := by
  unfold PyData.strOk
  rw [Array.all_eq_true']
  intro c hc
  exact decide_eq_true (h c (Array.mem_toList_iff.mpr hc))
theorem sum_le {xs : List Str} {m : Nat} (h : ∀ x ∈ xs, x.length ≤ m) : (xs.map (·.length)).sum ≤ xs.length * m := by
  induction xs with
  | nil => simp
  | cons x xs ih =>
    have h1 := h x List.mem_cons_self
    have h2 := ih fun y hy => h y (List.mem_cons_of_mem _ hy)
    simp only [List.map_cons, List.sum_cons, List.length_cons, Nat.succ_mul]
    omega
theorem joinLen_le {a : Str} {xs : List Str} {m : Nat} (h : ∀ x ∈ xs, x.length ≤ m) : joinLen a xs ≤ xs.length * (m + a.length) := by
  have := sum_le h
  unfold joinLen
  rw [Nat.mul_add]
  omega
/-- of a written text -/
def okSB (x : Str) : Bool := x.cps.all (· < 1114112)
theorem okS_of {x : Str} (h : okSB x = true) : okS x := by
  intro c hc
  unfold okSB at h
  rw [Array.all_eq_true'] at h
  exact of_decide_eq_true (h c (Array.mem_toList_iff.mp hc))
end DL
namespace DL
open PySem L2 PyProof.Rows
inductive W0 | nothing | never
inductive W1 | sign | but | name | again
inductive WM | row | choice
inductive WO | many | maybe | ahead | not
inductive W2 | hold | tag | make
def W0.s : W0 → Str
  | .nothing => "nothing"
  | .never => "never"
def W1.s : W1 → Str
  | .sign => "sign"
  | .but => "but"
  | .name => "name"
  | .again => "again"
def WM.s : WM → Str
  | .row => "row"
  | .choice => "choice"
def WO.s : WO → Str
  | .many => "many"
  | .maybe => "maybe"
  | .ahead => "ahead"
  | .not => "not"
def W2.s : W2 → Str
  | .hold => "hold"
  | .tag => "tag"
  | .make => "make"
inductive Rdr where
  | l0 (w : W0)
  | l1 (w : W1) (x : Str)
  | ps (w : WM) (rs : List Rdr)
  | un (w : WO) (r : Rdr)
  | bi (w : W2) (x : Str) (r : Rdr)
mutual
def Rdr.toD : Rdr → D
  | .l0 w => .tuple [.str w.s]
  | .l1 w x => .tuple [.str w.s, .str x]
  | .ps w rs => .tuple [.str w.s, .tuple (toDs rs)]
  | .un w r => .tuple [.str w.s, r.toD]
  | .bi w x r => .tuple [.str w.s, .str x, r.toD]
def toDs : List Rdr → List D
  | [] => []
  | r :: rs => r.toD :: toDs rs
end
mutual
def Rdr.dep : Rdr → Nat
  | .l0 _ => 1
  | .l1 _ _ => 1
  | .ps _ rs => deps rs + 1
  | .un _ r => r.dep + 1
  | .bi _ _ r => r.dep + 1
def deps : List Rdr → Nat
  | [] => 0
  | r :: rs => max r.dep (deps rs)
end
mutual
/-- how many parts it has -/
def Rdr.cnt : Rdr → Nat
  | .l0 _ => 1
  | .l1 _ _ => 1
  | .ps _ rs => cnts rs + 1
  | .un _ r => r.cnt + 1
  | .bi _ _ r => r.cnt + 1
def cnts : List Rdr → Nat
  | [] => 0
  | r :: rs => r.cnt + cnts rs
end
/-- a text of at most n signs -/
def Tx (n : Nat) (x : Str) : Prop := x.length ≤ n ∧ okS x
theorem Tx.mono {a b : Nat} {x : Str} (h : Tx a x) (q : a ≤ b) : Tx b x := ⟨Nat.le_trans h.1 q, h.2⟩
mutual
def Rdr.good (n : Nat) : Rdr → Prop
  | .l0 _ => True
  | .l1 _ x => Tx n x
  | .ps _ rs => rs.length ≤ 6 ∧ goods n rs
  | .un _ r => r.good n
  | .bi _ x r => Tx n x ∧ r.good n
def goods (n : Nat) : List Rdr → Prop
  | [] => True
  | r :: rs => r.good n ∧ goods n rs
end
theorem FnD.never {P : Program} {w : World} {K : Fg} {mg : Str → Option Value} {base : Heap} {k : Nat} {f : Addr} {fd : FuncData} {ps : List Str} {c : Ct} (h : ∀ as Q, ¬ c as Q) : FnD P w K mg base k f fd ps c :=
  ⟨fun A outer s H args us vs Q E hr hg he hb hv ⟨G, as, h1, h2, h3, h4, P, h5, h6⟩ => (h _ _ h5).elim⟩
theorem strsOf_mapf {α : Type} (f : α → Str) : ∀ as : List α, strsOf (as.map fun a => PyData.str (f a)) = some (as.map f)
  | [] => rfl
  | a :: as => by simp [strsOf, strsOf_mapf f as]
theorem str_ext {x y : Str} (h : x.cps.toList = y.cps.toList) : x = y := by
  obtain ⟨a⟩ := x
  obtain ⟨b⟩ := y
  simp only at h
  rw [Array.toList_inj.mp h]
theorem app_list (x y : Str) : (x ++ y).cps.toList = x.cps.toList ++ y.cps.toList := by
  show (x.cps ++ y.cps).toList = _
  simp
theorem app_len (x y : Str) : (x ++ y).length = x.length + y.length := by
  show (x.cps ++ y.cps).size = _
  simp [Str.length]
end DL
namespace DL
open PySem L2 PyProof.Rows
mutual
def wt : D → Nat
  | .none => 5
  | .bool _ => 6
  | .int _ => 60
  | .str x => 10 * x.length + 2
  | .list xs => wts xs + 4
  | .tuple xs => wts xs + 4
  | .dict kvs => wtk kvs + 4
def wts : List D → Nat
  | [] => 0
  | d :: ds => wt d + 2 + wts ds
def wtk : List (D × D) → Nat
  | [] => 0
  | (a, b) :: r => wt a + wt b + 4 + wtk r
end
mutual
/-- texts of signs, ints below 10^10 -/
def okD : D → Prop
  | .none => True
  | .bool _ => True
  | .int i => -100000000000000000000000000000000000000000000000000 < i ∧ i < 100000000000000000000000000000000000000000000000000
  | .str x => okS x
  | .list xs => okDs xs
  | .tuple xs => okDs xs
  | .dict kvs => okDk kvs
def okDs : List D → Prop
  | [] => True
  | d :: ds => okD d ∧ okDs ds
def okDk : List (D × D) → Prop
  | [] => True
  | (a, b) :: r => okD a ∧ okD b ∧ okDk r
end
theorem okDs_iff : ∀ {ds : List D}, okDs ds ↔ ∀ d ∈ ds, okD d
  | [] => by simp [okDs]
  | d :: ds => by simp [okDs, okDs_iff (ds := ds)]
theorem int_len {i : Int} (h : -100000000000000000000000000000000000000000000000000 < i ∧ i < 100000000000000000000000000000000000000000000000000) : (toString i : String).length ≤ 51 := by
  have hlt : i.natAbs < 10 ^ 50 := by
    have : (10 : Nat) ^ 50 = 100000000000000000000000000000000000000000000000000 := by decide
    omega
  have e := (Nat.length_repr_le_iff (n := i.natAbs) (by decide : 0 < 50)).mpr hlt
  cases i with
  | ofNat m =>
    have e2 : (toString (Int.ofNat m) : String) = Nat.repr m := rfl
    rw [e2]
    have : m = (Int.ofNat m).natAbs := rfl
    rw [this]; omega
  | negSucc m =>
    have e2 : (toString (Int.negSucc m) : String) = "-" ++ Nat.repr (m + 1) := rfl
    rw [e2, String.length_append]
    have : m + 1 = (Int.negSucc m).natAbs := rfl
    rw [this]
    have : ("-" : String).length = 1 := rfl
    omega
theorem str_len (x : String) : (x : Str).length = x.length := by
  show (Str.ofString x).cps.size = _
  simp [Str.ofString, cpsOfBytes_string, String.length_toList]
theorem joinL (sep : Str) : ∀ ts : List Str, (Str.join sep ts).length ≤ (ts.map fun t => t.length + sep.length).sum
  | [] => Nat.zero_le _
  | [x] => by simp [Str.join]
  | x :: y :: r => by
    have ih := joinL sep (y :: r)
    have e : (Str.join sep (x :: y :: r)).length = x.length + sep.length + (Str.join sep (y :: r)).length := by
      show (x ++ sep ++ Str.join sep (y :: r)).length = _
      rw [app_len, app_len]
    rw [e]
    simp only [List.map_cons, List.sum_cons] at ih ⊢
    omega
theorem textFromL : ∀ (ts : List Str) (k : Nat) (acc : Str), (textFrom k acc ts).length ≤ acc.length + (ts.map fun t => t.length + 2).sum
  | [], k, acc => by show acc.length ≤ _; simp
  | t :: r, k, acc => by
    have ih := textFromL r (k + 1) (acc ++ (if k > 0 then ", " else "" : String) ++ t)
    have e : (textFrom k acc (t :: r)) = textFrom (k + 1) (acc ++ (if k > 0 then ", " else "" : String) ++ t) r := rfl
    rw [e]
    have h2 : ((if k > 0 then ", " else "" : String) : Str).length ≤ 2 := by
      split
      · decide
      · decide
    rw [app_len, app_len] at ih
    simp only [List.map_cons, List.sum_cons]
    omega
mutual
theorem shown_le : ∀ d : D, okD d → d.shown.length ≤ wt d
  | .none, _ => by decide
  | .bool b, _ => by cases b <;> decide
  | .int i, h => by
    have := int_len h
    show ((toString i : String) : Str).length ≤ 60
    rw [str_len]; omega
  | .str x, h => by
    have := StrLaws.reprText_len x fun c hc => Nat.lt_of_lt_of_le (h c hc) (by decide)
    show (reprText x).length ≤ 10 * x.length + 2
    exact this
  | .list xs, h => by
    have := shownAll_le xs h
    show (textFrom 0 "[" (PyData.shownAll xs) ++ ("]" : Str)).length ≤ wts xs + 4
    have t := textFromL (PyData.shownAll xs) 0 ("[" : Str)
    rw [app_len, show (Str.ofString "]").length = 1 from rfl]
    rw [show (Str.ofString "[").length = 1 from rfl] at t
    omega
  | .tuple xs, h => by
    have := shownAll_le xs h
    show (("(" : Str) ++ Str.join ", " (PyData.shownAll xs) ++ (if (PyData.shownAll xs).length == 1 then ",)" else ")" : String)).length ≤ wts xs + 4
    have t := joinL ", " (PyData.shownAll xs)
    have h2 : ((if (PyData.shownAll xs).length == 1 then ",)" else ")" : String) : Str).length ≤ 2 := by
      split
      · decide
      · decide
    rw [app_len, app_len, show (Str.ofString "(").length = 1 from rfl]
    rw [show (Str.ofString ", ").length = 2 from rfl] at t
    omega
  | .dict kvs, h => by
    have := shownKv_le kvs h
    show (("{" : Str) ++ Str.join ", " (PyData.shownKv kvs) ++ ("}" : Str)).length ≤ wtk kvs + 4
    have t := joinL ", " (PyData.shownKv kvs)
    rw [app_len, app_len, show (Str.ofString "{").length = 1 from rfl, show (Str.ofString "}").length = 1 from rfl]
    rw [show (Str.ofString ", ").length = 2 from rfl] at t
    omega
theorem shownAll_le : ∀ ds : List D, okDs ds → ((PyData.shownAll ds).map fun t => t.length + 2).sum ≤ wts ds
  | [], _ => by simp [PyData.shownAll, wts]
  | d :: ds, h => by
    have h1 := shown_le d h.1
    have h2 := shownAll_le ds h.2
    simp only [PyData.shownAll, wts, List.map_cons, List.sum_cons]
    omega
theorem shownKv_le : ∀ ds : List (D × D), okDk ds → ((PyData.shownKv ds).map fun t => t.length + 2).sum ≤ wtk ds
  | [], _ => by simp [PyData.shownKv, wtk]
  | (a, b) :: ds, h => by
    have h1 := shown_le a h.1
    have h3 := shown_le b h.2.1
    have h2 := shownKv_le ds h.2.2
    simp only [PyData.shownKv, wtk, List.map_cons, List.sum_cons]
    rw [app_len, app_len, show (Str.ofString ": ").length = 2 from rfl]
    omega
end
theorem log_le {i : Int} (h : -100000000000000000000000000000000000000000000000000 < i ∧ i < 100000000000000000000000000000000000000000000000000) : i.natAbs.log2 < 1920 := by
  by_cases z : i.natAbs = 0
  · rw [z]; decide
  · have h1 : i.natAbs < 2 ^ 170 := by
      have : (2 : Nat) ^ 170 = 1496577676626844588240573268701473812127674924007424 := by decide
      omega
    have := (Nat.log2_lt z).mpr h1
    omega
mutual
theorem ok_showable : ∀ d : D, okD d → d.showable = true
  | .none, _ => rfl
  | .bool b, _ => rfl
  | .int i, h => decide_eq_true (log_le h)
  | .str x, _ => rfl
  | .list xs, h => ok_showableAll xs h
  | .tuple xs, h => ok_showableAll xs h
  | .dict kvs, h => ok_showableKv kvs h
theorem ok_showableAll : ∀ d : List D, okDs d → PyData.showableAll d = true
  | [], _ => rfl
  | d :: ds, h => by
    rw [PyData.showableAll, ok_showable d h.1, ok_showableAll ds h.2]; rfl
theorem ok_showableKv : ∀ d : List (D × D), okDk d → PyData.showableKv d = true
  | [], _ => rfl
  | (a, b) :: ds, h => by
    rw [PyData.showableKv, ok_showable a h.1, ok_showable b h.2.1, ok_showableKv ds h.2.2]; rfl
end
mutual
theorem ok_lay : ∀ d : D, okD d → d.hasDict = false → d.canLay0 = true
  | .none, _, _ => rfl
  | .bool b, _, _ => rfl
  | .int i, h, _ => rfl
  | .str x, h, _ => okS.ok h
  | .list xs, h, q => ok_layAll xs h (by simpa [PyData.hasDict] using q)
  | .tuple xs, h, q => ok_layAll xs h (by simpa [PyData.hasDict] using q)
  | .dict kvs, h, q => by simp [PyData.hasDict] at q
theorem ok_layAll : ∀ d : List D, okDs d → PyData.hasDictAll d = false → PyData.canLayAll0 d = true
  | [], _, _ => rfl
  | d :: ds, h, q => by
    simp only [PyData.hasDictAll, Bool.or_eq_false_iff] at q
    rw [PyData.canLayAll0, ok_lay d h.1 q.1, ok_layAll ds h.2 q.2]; rfl
end
/-- what repr and == ask -/
theorem repr_ok {d : D} (h : okD d) (h1 : wt d ≤ 16777216) (h2 : d.depth ≤ 64) (h3 : d.hasDict = false) : reprOk d = true := by
  have := shown_le d h
  have e : sizeLine = 16777216 := sizeLine_eq
  unfold reprOk
  rw [ok_showable d h, decide_eq_true (by omega : d.shown.length ≤ sizeLine), decide_eq_true h2, h3]; rfl
theorem shaped_ok {d : D} (h : okD d) (h2 : d.depth ≤ 64) (h3 : d.hasDict = false) : SeqAt.shaped d = true := by
  unfold SeqAt.shaped
  rw [ok_lay d h h3, decide_eq_true h2]; rfl
theorem W0.ok (w : W0) : okS w.s ∧ w.s.length ≤ 8 := by cases w <;> exact ⟨okS_of (by decide +kernel), by decide⟩
theorem W1.ok (w : W1) : okS w.s ∧ w.s.length ≤ 8 := by cases w <;> exact ⟨okS_of (by decide +kernel), by decide⟩
theorem WM.ok (w : WM) : okS w.s ∧ w.s.length ≤ 8 := by cases w <;> exact ⟨okS_of (by decide +kernel), by decide⟩
theorem WO.ok (w : WO) : okS w.s ∧ w.s.length ≤ 8 := by cases w <;> exact ⟨okS_of (by decide +kernel), by decide⟩
theorem W2.ok (w : W2) : okS w.s ∧ w.s.length ≤ 8 := by cases w <;> exact ⟨okS_of (by decide +kernel), by decide⟩
mutual
theorem Rdr.wt {n : Nat} : ∀ r : Rdr, r.good n → DL.wt r.toD ≤ (10 * n + 110) * r.cnt
  | .l0 w, _ => by
    have := w.ok.2
    simp only [Rdr.toD, DL.wt, wts, Rdr.cnt]; omega
  | .l1 w x, h => by
    have := w.ok.2
    have := h.1
    simp only [Rdr.toD, DL.wt, wts, Rdr.cnt]; omega
  | .ps w rs, h => by
    have := w.ok.2
    have := goods_wt rs h.2
    have h6 := h.1
    simp only [Rdr.toD, DL.wt, wts, Rdr.cnt, Nat.mul_succ]; omega
  | .un w r, h => by
    have := w.ok.2
    have := Rdr.wt r h
    simp only [Rdr.toD, DL.wt, wts, Rdr.cnt, Nat.mul_succ]; omega
  | .bi w x r, h => by
    have := w.ok.2
    have := Rdr.wt r h.2
    have := h.1.1
    simp only [Rdr.toD, DL.wt, wts, Rdr.cnt, Nat.mul_succ]; omega
theorem goods_wt {n : Nat} : ∀ rs : List Rdr, goods n rs → wts (toDs rs) ≤ (10 * n + 110) * cnts rs + 2 * rs.length
  | [], _ => by simp [toDs, wts]
  | r :: rs, h => by
    have h1 := Rdr.wt r h.1
    have h2 := goods_wt rs h.2
    simp only [toDs, wts, cnts, List.length_cons, Nat.mul_add]; omega
end
mutual
theorem Rdr.depth : ∀ r : Rdr, r.toD.depth ≤ 2 * r.dep
  | .l0 w => by simp [Rdr.toD, PyData.depth, PyData.depthAll, Rdr.dep]
  | .l1 w x => by simp [Rdr.toD, PyData.depth, PyData.depthAll, Rdr.dep]
  | .ps w rs => by
    have := depths rs
    simp [Rdr.toD, PyData.depth, PyData.depthAll, Rdr.dep]; omega
  | .un w r => by
    have := Rdr.depth r
    simp [Rdr.toD, PyData.depth, PyData.depthAll, Rdr.dep]; omega
  | .bi w x r => by
    have := Rdr.depth r
    simp [Rdr.toD, PyData.depth, PyData.depthAll, Rdr.dep]; omega
theorem depths : ∀ rs : List Rdr, PyData.depthAll (toDs rs) ≤ 2 * deps rs
  | [] => by simp [toDs, PyData.depthAll]
  | r :: rs => by
    have h1 := Rdr.depth r
    have h2 := depths rs
    simp only [toDs, PyData.depthAll, deps]; omega
end
theorem hasDictAll_iff : ∀ {ds : List D}, PyData.hasDictAll ds = false ↔ ∀ d ∈ ds, d.hasDict = false
  | [] => by simp [PyData.hasDictAll]
  | d :: ds => by simp [PyData.hasDictAll, hasDictAll_iff (ds := ds)]
theorem depthAll_le {n : Nat} : ∀ {ds : List D}, PyData.depthAll ds ≤ n ↔ ∀ d ∈ ds, d.depth ≤ n
  | [] => by simp [PyData.depthAll]
  | d :: ds => by simp [PyData.depthAll, Nat.max_le, depthAll_le (ds := ds)]
end DL
namespace DL
open PySem L2 PyProof.Rows
theorem lp_by {g : GT} {body : MS} {O : Out} {ds : List D} {r : Rho} (I : List D → Rho → Prop) (hi : I ds r) (h : ∀ d ds r, I (d :: ds) r → (∀ r', I ds r' → loopM g body ds r' O) → loopM g body (d :: ds) r O) (h0 : ∀ r, I [] r → O.nx r) : Lp g body ds r O := ⟨loop_by I h h0 ds r hi⟩
theorem lcc_by {vs : List Nat} {g : GT} {tt : MT} {te : ME} {P : List D → Rho → Prop} {ds acc : List D} {r : Rho} (I : List D → List D → Rho → Prop) (hi : I ds acc r) (h : ∀ d ds acc r, I (d :: ds) acc r → (∀ acc' r', I ds acc' r' → lcM vs g tt te P ds acc' r') → lcM vs g tt te P (d :: ds) acc r) (h0 : ∀ acc r, I [] acc r → P acc r) : Lc vs g tt te P ds acc r := ⟨lc_by I h h0 ds acc r hi⟩
theorem range_len (lo : Int) (n : Nat) : (rangeD lo n).length = n := by simp [rangeD]
end DL
namespace DL
open PySem L2 PyProof.Rows
inductive Sqn where
  | L (a : Addr) (xs : List V) | T (a : Addr) (xs : List V) | S (x : Str)
def Sqn.holds (K : Fg) (H : Hp) : Sqn → Prop
  | .L a xs => SqL K H a xs
  | .T a xs => SqT K H a xs
  | .S _ => True
def Sqn.tn (c : Sqn) (it : Addr) (i : Nat) (h : Heap) : Prop := match c with
  | .L a _ => h.IsListIter it a i
  | .T a _ => h.IsTupleIter it a i
  | .S x => ∃ t, h.IsStrIter it (strIterType x) x t i
def Sqn.ap (c : Sqn) (b : Addr) : Prop := match c with
  | .L a _ => a ≠ b
  | .T a _ => a ≠ b
  | .S _ => True
theorem Sqn.tn.at {c : Sqn} {it : Addr} {i : Nat} {h h' : Heap} (t : c.tn it i h) (k : ∀ o, h.get? it = some o → h'.get? it = some o) : c.tn it i h' := by
  cases c with
  | L a xs => exact Heap.IsListIter.at t k
  | T a xs => exact Heap.IsTupleIter.at t k
  | S x => obtain ⟨u, o, e, r⟩ := t; exact ⟨u, o, k o e, r⟩
/-- the cells of a zip lie apart -/
structure ZAp (z TI TO i1 i2 : Addr) (c1 c2 : Sqn) : Prop where
  TIz : TI ≠ z
  TOz : TO ≠ z
  TITO : TI ≠ TO
  TIi1 : TI ≠ i1
  TIi2 : TI ≠ i2
  TOi1 : TO ≠ i1
  TOi2 : TO ≠ i2
  i1z : i1 ≠ z
  i2z : i2 ≠ z
  i12 : i1 ≠ i2
  p1 : ∀ b ∈ [z, TI, TO, i1, i2], c1.ap b
  p2 : ∀ b ∈ [z, TI, TO, i1, i2], c2.ap b
theorem ZAp.sep {z TI TO i1 i2 : Addr} {c1 c2 : Sqn} {fp1 fp2 : List Addr} (D : ZAp z TI TO i1 i2 c1 c2) (m1 : i1 ∈ fp1) (m2 : i2 ∈ fp2) (n1 : ∀ b, b ≠ i1 → c1.ap b → b ∉ fp1) (n2 : ∀ b, b ≠ i2 → c2.ap b → b ∉ fp2) : ZipSep2 z TI TO i1 i2 fp1 fp2 where
  TIz := D.TIz
  TOz := D.TOz
  TITO := D.TITO
  TIi1 := D.TIi1
  mem1 := m1
  zf1 := n1 z (Ne.symm D.i1z) (D.p1 z (by simp))
  Tf1 := n1 TO D.TOi1 (D.p1 TO (by simp))
  TIi2 := D.TIi2
  mem2 := m2
  zf2 := n2 z (Ne.symm D.i2z) (D.p2 z (by simp))
  Tf2 := n2 TO D.TOi2 (D.p2 TO (by simp))
  sep1_2 := n2 i1 D.i12 (D.p2 i1 (by simp))
  sep2_1 := n1 i2 (Ne.symm D.i12) (D.p1 i2 (by simp))
end DL
namespace DL
open PySem L2 PyProof.Rows
section
variable {K : Fg} {e : En} {F : Hp} {r : Rho} {s : L2.St} {H : Hp}
/-- a new object as one more slot -/
theorem Ok.ext {p : Addr} {o : HO} {m : MB} (k : Ok K e F r s H) (h1 : H p = some o) (h2 : MO K F o m) (h3 : F p = none) (h4 : e.P p = none) (h5 : ¬ e.old p)
    (h6 : NB r s p) : Ok K e F (r ++ [some (.box false m)]) (s ++ [some (.ref p)]) H := by
  have get : ∀ {α : Type} {l : List α} {x y : α} {i : Nat}, (l ++ [x])[i]? = some y → l[i]? = some y ∨ (i = l.length ∧ x = y) := by
    intro α l x y i h
    rw [List.getElem?_append] at h
    split at h
    · exact .inl h
    · rename_i q
      cases z : i - l.length with
      | zero => rw [z] at h; simp at h; exact .inr ⟨by omega, h⟩
      | succ j => rw [z] at h; simp at h
  have put : ∀ {α : Type} {l : List α} {x y : α} {i : Nat}, l[i]? = some y → (l ++ [x])[i]? = some y := by
    intro α l x y i h
    rw [List.getElem?_append_left (List.getElem?_eq_some_iff.mp h).1]; exact h
  have last : (s ++ [some (V.ref p)])[r.length]? = some (some (V.ref p)) := by rw [k.len]; simp
  refine ⟨by rw [List.length_append, List.length_append, k.len]; rfl, k.sub, k.f0, k.prot, k.new, k.dom, fun i d z => ?_, fun i b m' z => ?_, fun i ns z => ?_, fun i j q b m1 b' m2 z z' y y' => ?_, fun i n a z => ?_, fun i G z => ?_, k.gpF⟩
  · rcases get z with z | ⟨_, z⟩
    · obtain ⟨v, g1, g2⟩ := k.slot i d z; exact ⟨v, put g1, g2⟩
    · cases z
  · rcases get z with z | ⟨rfl, zz⟩
    · obtain ⟨q, u, g1, g2⟩ := k.box i b m' z; exact ⟨q, u, put g1, g2.1, g2.2.1, g2.2.2.1, g2.2.2.2.1, g2.2.2.2.2⟩
    · cases zz
      exact ⟨p, o, last, h1, h2, h3, h4, fun _ => h5, fun q => by cases q⟩
  · rcases get z with z | ⟨_, z⟩
    · obtain ⟨a, g1, g2⟩ := k.ob i ns z; exact ⟨a, put g1, g2⟩
    · cases z
  · have sl : ∀ {i : Nat} {b : Bool} {m : MB}, r[i]? = some (some (Ce.box b m)) → (s ++ [some (V.ref p)])[i]? = some (some (V.ref q)) → s[i]? = some (some (V.ref q)) := by
      intro i b m z y
      rcases get y with y | ⟨y, _⟩
      · exact y
      · have := (List.getElem?_eq_some_iff.mp z).1
        rw [k.len] at this; omega
    rcases get z with z | ⟨rfl, z⟩
    · rcases get z' with z' | ⟨rfl, z'⟩
      · exact k.sep i j q b m1 b' m2 z z' (sl z y) (sl z' y')
      · rw [last] at y'; cases y'
        exact absurd (sl z y) (h6.1 i b m1 z)
    · rw [last] at y; cases y
      rcases get z' with z' | ⟨rfl, z'⟩
      · exact absurd (sl z' y') (h6.1 j b' m2 z')
      · rfl
  · rcases get z with z | ⟨_, z⟩
    · exact put (k.adr i n a z)
    · cases z
  · rcases get z with z | ⟨_, z⟩
    · obtain ⟨g1, g2, g3⟩ := k.gh i G z
      refine ⟨g1, fun j b m' q z2 w => ?_, fun j G' z2 => ?_⟩
      · rcases get z2 with z2 | ⟨rfl, _⟩
        · rcases get w with w | ⟨y, _⟩
          · exact g2 j b m' q z2 w
          · have := (List.getElem?_eq_some_iff.mp z2).1
            rw [k.len] at this; omega
        · rw [last] at w; cases w
          exact h6.2 i G z
      · rcases get z2 with z2 | ⟨_, z2⟩
        · exact g3 j G' z2
        · cases z2
    · cases z
theorem Ok.cut {n : Nat} (k : Ok K e F r s H) : Ok K e F (r.take n) (s.take n) H := by
  have get : ∀ {α : Type} {l : List α} {y : α} {i : Nat}, (l.take n)[i]? = some y → i < n ∧ l[i]? = some y := by
    intro α l y i h
    rw [List.getElem?_take] at h
    split at h
    · rename_i q; exact ⟨q, h⟩
    · cases h
  have put : ∀ {α : Type} {l : List α} {y : α} {i : Nat}, i < n → l[i]? = some y → (l.take n)[i]? = some y := by
    intro α l y i q h
    rw [List.getElem?_take, if_pos q]; exact h
  refine ⟨by rw [List.length_take, List.length_take, k.len], k.sub, k.f0, k.prot, k.new, k.dom, fun i d z => ?_, fun i b m' z => ?_, fun i ns z => ?_, fun i j q b m1 b' m2 z z' y y' => ?_, fun i n a z => ?_, fun i G z => ?_, k.gpF⟩
  · obtain ⟨q, z⟩ := get z
    obtain ⟨v, g1, g2⟩ := k.slot i d z; exact ⟨v, put q g1, g2⟩
  · obtain ⟨q, z⟩ := get z
    obtain ⟨p, u, g1, g2⟩ := k.box i b m' z; exact ⟨p, u, put q g1, g2⟩
  · obtain ⟨q, z⟩ := get z
    obtain ⟨a, g1, g2⟩ := k.ob i ns z; exact ⟨a, put q g1, g2⟩
  · exact k.sep i j q b m1 b' m2 (get z).2 (get z').2 (get y).2 (get y').2
  · obtain ⟨q, z⟩ := get z
    exact put q (k.adr i n a z)
  · obtain ⟨g1, g2, g3⟩ := k.gh i G (get z).2
    exact ⟨g1, fun j b m p z2 w => g2 j b m p (get z2).2 (get w).2, fun j G' z2 => g3 j G' (get z2).2⟩
theorem RT.ext {x : R} {v : V} {t : L2.St} (h : RT K F s x v) : RT K F (s ++ t) x v := by
  cases h with
  | val a => exact .val a
  | bor a => exact .bor (by rw [List.getElem?_append_left (List.getElem?_eq_some_iff.mp a).1]; exact a)
  | ob a => exact .ob a
  | adr => exact .adr
theorem RTs.ext {xs : List R} {vs : List V} {t : L2.St} (h : RTs K F s xs vs) : RTs K F (s ++ t) xs vs := by
  induction h with
  | nil => exact .nil
  | cons a _ ih => exact .cons a.ext ih
/-- values of arguments, one of them a new object -/
inductive RTw (K : Fg) (e : En) (F : Hp) (r : Rho) (s : L2.St) (H : Hp) : List R → List V → Prop
  | own {m : MB} {v : V} {xs : List R} {vs : List V} : RR K e F r s H (.own m) v → RTs K F s xs vs → RTw K e F r s H (.own m :: xs) (v :: vs)
  | cons {x : R} {v : V} {xs : List R} {vs : List V} : RT K F s x v → RTw K e F r s H xs vs → RTw K e F r s H (x :: xs) (v :: vs)
/-- the new object's place in the list is slot n -/
def splitO (n : Nat) : List R → Option (List R × MB)
  | [] => none
  | .own m :: xs => some (.bor n :: xs, m)
  | .val d :: xs => match splitO n xs with
    | some q => some (.val d :: q.1, q.2)
    | none => none
  | .bor i :: xs => match splitO n xs with
    | some q => some (.bor i :: q.1, q.2)
    | none => none
  | .ob ns :: xs => match splitO n xs with
    | some q => some (.ob ns :: q.1, q.2)
    | none => none
  | .adr n' a :: xs => match splitO n xs with
    | some q => some (.adr n' a :: q.1, q.2)
    | none => none
theorem RTw.split {xs : List R} {vs : List V} (t : RTw K e F r s H xs vs) (k : Ok K e F r s H) : ∃ (zs : List R) (m : MB) (p : Addr), splitO r.length xs = some (zs, m) ∧ RTs K F (s ++ [some (.ref p)]) zs vs ∧ Ok K e F (r ++ [some (.box false m)]) (s ++ [some (.ref p)]) H := by
  induction t with
  | own h t =>
    cases h with
    | own h1 h2 h3 h4 h5 h6 =>
      refine ⟨_, _, _, rfl, .cons (.bor ?_) t.ext, k.ext h1 h2 h3 h4 h5 h6⟩
      rw [k.len]; simp
  | cons a t ih =>
    obtain ⟨zs, m, p, e1, t1, k1⟩ := ih
    cases a with
    | val q => exact ⟨_, m, p, by simp only [splitO, e1], .cons (.val q) t1, k1⟩
    | bor q => exact ⟨_, m, p, by simp only [splitO, e1], .cons (RT.bor q).ext t1, k1⟩
    | ob q => exact ⟨_, m, p, by simp only [splitO, e1], .cons (.ob q) t1, k1⟩
    | @adr n a => exact ⟨.adr n a :: zs, m, p, by simp only [splitO, e1], .cons .adr t1, k1⟩
theorem RTw.length {xs : List R} {vs : List V} (t : RTw K e F r s H xs vs) : xs.length = vs.length := by
  induction t with
  | own h t => rw [List.length_cons, List.length_cons, t.length]
  | cons a t ih => rw [List.length_cons, List.length_cons, ih]
theorem RR.mono {x : R} {v : V} {m : MB} {F' : Hp} {r' : Rho} {H' : Hp} {p : Addr} {o : HO} (k : Ok K (e.keep p o) F' r' s H') (hm : MO K F' o m) (hP : e.P p = none) (hF0 : e.F0 p = none) (ho : ¬ e.old p) : RR K e F' r' s H' (.own m) (.ref p) := by
  obtain ⟨k', h1, h2, h3⟩ := k.unkeep hP hF0 hm.ntup
  exact .own h1 hm h2 hP ho h3
end
section
variable {X : Cx} {a : Expr} {es : List Expr} {ma : ME} {ms : MA} {k n : Nat} {f : Addr} {fd : FuncData} {ps : List Str} {c : Ct} {x : Str} {p pos : Pos}
/-- the module's name x is a def that keeps the contract c, called by places -/
structure DefP (P : Program) (w : World) (K : Fg) (mg : Str → Option Value) (base : Heap) (k : Nat) (x : Str) (n : Nat) (c : Ct) : Prop where
  ex : ∃ f fd ps, mg x = some (.ref f) ∧ PySem.W.keepIn K (.ref f) = true ∧ FnD P w K mg base k f fd ps c ∧ Binds K fd ps [] ∧ ps.length = n
theorem DefP.of {P : Program} {w : World} {K : Fg} {mg : Str → Option Value} {base : Heap} {k : Nat} {x : Str} {c : Ct} {f : Addr} {fd : FuncData} {ps : List Str} (hm : mg x = some (.ref f)) (hk : PySem.W.keepIn K (.ref f) = true) (F : FnD P w K mg base k f fd ps c) (hb : Binds K fd ps []) : DefP P w K mg base k x ps.length c := ⟨⟨f, fd, ps, hm, hk, F, hb, rfl⟩⟩
end
end DL
namespace DL
open PySem L2 PyProof.Rows
def maxI : List Int → Int
  | [] => 0
  | a :: r => r.foldl (fun m x => if m < x then x else m) a
theorem fold_max : ∀ (r : List Int) (a : Int), (r.foldl (fun m x => if m < x then x else m) a) ∈ a :: r ∧ ∀ x ∈ a :: r, x ≤ r.foldl (fun m x => if m < x then x else m) a
  | [], a => by simp
  | b :: r, a => by
    rw [List.foldl_cons]
    by_cases h : a < b
    · rw [if_pos h]
      obtain ⟨h1, h2⟩ := fold_max r b
      refine ⟨List.mem_cons_of_mem _ h1, fun x hx => ?_⟩
      rcases List.mem_cons.mp hx with rfl | hx
      · have := h2 b List.mem_cons_self; omega
      · exact h2 x hx
    · rw [if_neg h]
      obtain ⟨h1, h2⟩ := fold_max r a
      refine ⟨?_, fun x hx => ?_⟩
      · rcases List.mem_cons.mp h1 with h1 | h1
        · rw [h1]; exact List.mem_cons_self
        · exact List.mem_cons_of_mem _ (List.mem_cons_of_mem _ h1)
      · rcases List.mem_cons.mp hx with rfl | hx
        · exact h2 _ List.mem_cons_self
        · rcases List.mem_cons.mp hx with rfl | hx
          · have := h2 a List.mem_cons_self; omega
          · exact h2 x (List.mem_cons_of_mem _ hx)
theorem maxI_mem {ns : List Int} (h : ns ≠ []) : maxI ns ∈ ns ∧ ∀ x ∈ ns, x ≤ maxI ns := by
  cases ns with
  | nil => exact absurd rfl h
  | cons a r => exact fold_max r a
section
variable {X : Cx}
def fMaxA : FA
  | [.int i, .int j] => some (.val (.int (if j > i then j else i)))
  | [.list ds] => match intsOf ds with
    | some ns => if ns ≠ [] then some (.val (.int (maxI ns))) else none
    | none => none
  | _ => none
theorem calld_maxA (hc : X.calm = true) : CallD X (.builtin "max") fMaxA := by
  refine ⟨_, CallR.or (call_max2 hc) (cr_max hc), fun e F r s H vs ds z Q k l ef w => ?_⟩
  unfold fMaxA at ef
  split at ef
  · cases ef
    obtain ⟨v, v', rfl, lk, lk'⟩ := l.two
    rw [lk.int, lk'.int]
    exact .inl ⟨_, _, rfl, w _ F H k (Sub.refl F) (.val (.int _))⟩
  · rename_i ds
    split at ef
    · rename_i ns hn
      split at ef
      · rename_i hne
        cases ef
        obtain ⟨v, rfl, lk⟩ := l.one
        obtain ⟨a, xs, rfl, h1, h2⟩ := lk.lst k.sub
        have e3 := h2.ints hn
        subst e3
        refine .inr ⟨a, ns, rfl, .inl h1, List.length_pos_iff.mpr hne, fun m h1 h2 => ?_⟩
        obtain ⟨g1, g2⟩ := maxI_mem hne
        have : m = maxI ns := Int.le_antisymm (g2 m h1) (h2 _ g1)
        rw [this]
        exact w _ F H k (Sub.refl F) (.val (.int _))
      · cases ef
    · cases ef
  · cases ef
def kMaxA : List D → (R → Prop) → Prop
  | [.int i, .int j], K => K (.val (.int (if j > i then j else i)))
  | [.list ds], K => onO (intsOf ds) fun ns => Rq (ns ≠ []) (K (.val (.int (maxI ns))))
  | _, _ => False
def cMaxA : CaK := ⟨fMaxA, kMaxA, fun ds K h => by
  unfold kMaxA at h
  split at h
  · exact ⟨_, rfl, h⟩
  · obtain ⟨ns, e, h2⟩ := onO.ex h
    exact ⟨_, by simp only [fMaxA, e]; exact rq_if h2, Rq.a h2⟩
  · exact h.elim⟩
end
end DL
namespace DL
open PySem L2 PyProof.Rows
end DL
namespace DL
open PySem L2 PyProof.Rows
def SIGNS : Str := "\n !\"#$&'()*+,-./0123456789:;<=>?@ABCDEFGHIJKLMNOPQRSTUVWXYZ[\\]^_`abcdefghijklmnopqrstuvwxyz{|}~"
def LETTERS : Str := "abcdefghijklmnopqrstuvwxyz"
def inL (c : Nat) : Bool := decide (c ∈ LETTERS.cps.toList)
def Fit (d : D) : Prop := okD d ∧ wt d ≤ 1000000 ∧ d.depth ≤ 64
theorem wts_mem {d : D} : ∀ {ds : List D}, d ∈ ds → wt d + 2 ≤ wts ds
  | [], h => by cases h
  | e :: ds, h => by
    rw [wts]
    rcases List.mem_cons.mp h with rfl | h
    · omega
    · have := wts_mem h; omega
theorem Fit.tup {ds : List D} (h : Fit (.tuple ds)) : ∀ d ∈ ds, Fit d := fun d hd => by
  obtain ⟨h1, h2, h3⟩ := h
  refine ⟨okDs_iff.mp h1 d hd, ?_, ?_⟩
  · have := wts_mem hd
    rw [wt] at h2; omega
  · have h5 : PyData.depthAll ds ≤ 63 := by
      simp only [PyData.depth] at h3; omega
    exact Nat.le_trans (depthAll_le.mp h5 d hd) (by omega)
theorem Fit.str {x : Str} (h : Fit (.str x)) : x.length ≤ 1000000 := by
  have := h.2.1
  rw [wt] at this; omega
theorem Fit.len {ds : List D} (h : Fit (.tuple ds)) : ds.length ≤ 1000000 := by
  have h2 := h.2.1
  rw [wt] at h2
  have : ∀ ds : List D, ds.length ≤ wts ds := fun ds => by
    induction ds with
    | nil => simp
    | cons d ds ih => rw [wts, List.length_cons]; omega
  have := this ds
  omega
theorem Fit.shaped {d : D} (h : Fit d) (hd : d.hasDict = false) : SeqAt.shaped d = true := shaped_ok h.1 h.2.2 hd
theorem all_map {α : Type} (f : α → Bool) (as : List α) : (as.map f).all id = as.all f := by simp [List.all_map]
theorem cutS_lohi (x : Str) (k l : Nat) : (cutS x (some (k : Int)) (some (l : Int))).cps.toList = (x.cps.toList.drop k).take (l - k) := by
  unfold cutS
  rw [HT.sIx_nat, HT.sIx_nat]
  show ((x.cps.toList.drop (min k x.length)).take (min l x.length - min k x.length)) = _
  have hl : x.cps.toList.length = x.length := Array.length_toList
  apply List.ext_getElem?
  intro i
  rw [List.getElem?_take, List.getElem?_take, List.getElem?_drop, List.getElem?_drop]
  by_cases h : k ≤ x.length
  · rw [Nat.min_eq_left h]
    by_cases h2 : i < l - k
    · rw [if_pos h2]
      by_cases h3 : i < min l x.length - k
      · rw [if_pos h3]
      · rw [if_neg h3, List.getElem?_eq_none (by omega)]
    · rw [if_neg h2, if_neg (by omega)]
  · rw [if_neg (by omega)]
    split
    · rw [List.getElem?_eq_none (by omega)]
    · rfl
theorem at_0 {α : Type} (x : α) (xs : List α) : atI (x :: xs) 0 = some x := by
  unfold atI ixN
  rw [if_pos (by omega), if_pos (by rw [List.length_cons]; omega)]
  rfl
theorem at_nat {α : Type} {xs : List α} {i : Nat} {x : α} (h : xs[i]? = some x) : atI xs (i : Int) = some x := by
  have hl := (List.getElem?_eq_some_iff.mp h).1
  unfold atI ixN
  rw [if_pos (by omega), if_pos (by omega)]
  simpa using h
end DL
namespace DL
open PySem L2 PyProof.Rows
/-- a rising text of at most 94 signs -/
def Sg0 (x : Str) : Prop := x.cps.toList.Sublist SIGNS.cps.toList ∧ x.length ≤ 94
def Sg1 (x : Str) : Prop := Sg0 x ∧ 1 ≤ x.length
def Nm (x : Str) : Prop := x.cps.toList.all inL = true ∧ 1 ≤ x.length ∧ x.length ≤ 8
def Mk (x : Str) : Prop := x = "text" ∨ x = "drop" ∨ x = "count" ∨ x = "number"
theorem SIGNS_ok : ∀ c ∈ SIGNS.cps.toList, c < 1114112 := by decide +kernel
theorem LETTERS_ok : ∀ c ∈ LETTERS.cps.toList, c < 1114112 := by decide +kernel
theorem Sg0.ok {x : Str} (h : Sg0 x) : Tx 94 x := ⟨h.2, fun c hc => SIGNS_ok c (h.1.subset hc)⟩
theorem Nm.ok {x : Str} (h : Nm x) : Tx 8 x := ⟨h.2.2, fun c hc => LETTERS_ok c (of_decide_eq_true (List.all_eq_true.mp h.1 c hc))⟩
theorem Mk.ok {x : Str} (h : Mk x) : Tx 8 x := by
  rcases h with rfl | rfl | rfl | rfl <;> exact ⟨by decide, okS_of (by decide +kernel)⟩
/-- a join of signs -/
theorem joinS (l : List Nat) : (Str.join (Str.ofString "") (l.map fun c => (⟨#[c]⟩ : Str))).cps.toList = l := by
  induction l with
  | nil => rfl
  | cons c l ih =>
    cases l with
    | nil => rfl
    | cons d l =>
      have e : Str.join (Str.ofString "") ((c :: d :: l).map fun c => (⟨#[c]⟩ : Str)) = (⟨#[c]⟩ : Str) ++ Str.ofString "" ++ Str.join (Str.ofString "") ((d :: l).map fun c => (⟨#[c]⟩ : Str)) := rfl
      rw [e, app_list, app_list, ih]; rfl
theorem joinOnes (l : List Nat) : (Txt.join (Str.ofString "") (l.map fun c => (⟨#[c]⟩ : Str))).cps.toList = l := by
  rw [show Txt.join (Str.ofString "") (l.map fun c => (⟨#[c]⟩ : Str)) = Str.join (Str.ofString "") (l.map fun c => (⟨#[c]⟩ : Str)) from StrLaws.glued_eq_join _ _]
  exact joinS l
theorem join_ones_fit {l : List Nat} (h : l.length ≤ 1000000) : joinLen (Str.ofString "") (l.map fun c => (⟨#[c]⟩ : Str)) ≤ 16777216 := by
  have := joinLen_le (a := Str.ofString "") (xs := l.map fun c => (⟨#[c]⟩ : Str)) (m := 1) (by
    intro y hy
    rw [List.mem_map] at hy
    obtain ⟨c, _, rfl⟩ := hy
    exact Nat.le_refl _)
  rw [show (Str.ofString "").length = 0 from rfl, List.length_map] at this
  omega
theorem strsOf_ones (l : List Nat) : strsOf (l.map fun c => PyData.str ⟨#[c]⟩) = some (l.map fun c => (⟨#[c]⟩ : Str)) := strsOf_mapf (fun c => (⟨#[c]⟩ : Str)) l
theorem slen (x : Str) : x.length = x.cps.toList.length := (Array.length_toList).symm
mutual
def Rdr.wf : Rdr → Prop
  | .l0 _ => True
  | .l1 .sign x => Sg1 x
  | .l1 .but x => Sg0 x
  | .l1 .name x => Nm x
  | .l1 .again x => Nm x
  | .ps _ rs => 2 ≤ rs.length ∧ rs.length ≤ 6 ∧ wfs rs
  | .un _ r => r.wf
  | .bi .make x r => Mk x ∧ r.wf
  | .bi .hold x r => Nm x ∧ r.wf
  | .bi .tag x r => Nm x ∧ r.wf
def wfs : List Rdr → Prop
  | [] => True
  | r :: rs => r.wf ∧ wfs rs
end
mutual
theorem Rdr.wf.good : ∀ {r : Rdr}, r.wf → r.good 94
  | .l0 _, _ => trivial
  | .l1 .sign x, h => h.1.ok
  | .l1 .but x, h => Sg0.ok h
  | .l1 .name x, h => (Nm.ok h).mono (by omega)
  | .l1 .again x, h => (Nm.ok h).mono (by omega)
  | .ps _ rs, h => ⟨h.2.1, wfs.good h.2.2⟩
  | .un _ r, h => Rdr.wf.good (r := r) h
  | .bi .make x r, h => ⟨h.1.ok.mono (by omega), Rdr.wf.good h.2⟩
  | .bi .hold x r, h => ⟨(Nm.ok h.1).mono (by omega), Rdr.wf.good h.2⟩
  | .bi .tag x r, h => ⟨(Nm.ok h.1).mono (by omega), Rdr.wf.good h.2⟩
theorem wfs.good : ∀ {rs : List Rdr}, wfs rs → goods 94 rs
  | [], _ => trivial
  | r :: rs, h => ⟨Rdr.wf.good h.1, wfs.good h.2⟩
end
end DL
namespace DL
open PySem L2 PyProof.Rows
end DL
namespace DL
open PySem L2 PyProof.Rows
end DL
namespace DL
open PySem L2 PyProof.Rows
section
variable {X : Cx}
def rEqT0 (K : Fg) : R2 := fun x y H Q => ∃ a b xs, x = .ref a ∧ y = .ref b ∧ SqT K H a xs ∧ SqT K H b [] ∧ Q (.bl xs.isEmpty) H
theorem op_eqT0 (hu : X.A.units + 64 < cLine) : OpR X (compareOp .Eq) (rEqT0 X.K) := by
  intro pins s σ H x y v u Q I rx ry h
  obtain ⟨a, b, xs, rfl, rfl, h1, h2, q⟩ := h
  obtain rfl : v = Value.ref a := rx
  obtain rfl : u = Value.ref b := ry
  obtain ⟨its, rv, p, _⟩ := I.tuple h1
  obtain ⟨its2, rv2, p2, _⟩ := I.tuple h2
  cases rv2
  have z := SeqAt.RcAt.tuples (A := X.A) (e := fun _ => true) (show s.heap.IsTuple a its.toArray from p) (show s.heap.IsTuple b ([] : List Value).toArray from p2) (by omega) (fun j j1 j2 => by simp at j2)
  refine z X.prog X.w X.xe _ ⟨.bl xs.isEmpty, H, I, ?_, q⟩
  have hl := rv.length
  have e : ((List.range (min its.toArray.size ([] : List Value).toArray.size)).all (fun _ => true) && its.toArray.size == ([] : List Value).toArray.size) = xs.isEmpty := by
    cases xs with
    | nil => cases rv; rfl
    | cons x xs => cases rv; simp
  rw [e]; rfl
def fEqT0 : F2 := fun a b => match a, b with
  | .tuple ds, .tuple [] => some (.val (.bool ds.isEmpty))
  | _, _ => none
theorem opd_eqT0 (hu : X.A.units + 64 < cLine) : OpD X (compareOp .Eq) fEqT0 := by
  refine ⟨_, op_eqT0 hu, fun e F r s H v1 v2 d1 d2 z Q k l1 l2 ef w => ?_⟩
  unfold fEqT0 at ef
  split at ef
  · rename_i ds
    cases ef
    obtain ⟨a, xs, rfl, h1, h2, _⟩ := l1.tup k.sub
    obtain ⟨b, ys, rfl, h3, h4, _⟩ := l2.tup k.sub
    cases h4
    refine ⟨a, b, xs, rfl, rfl, h1, h3, ?_⟩
    rw [h2.isEmpty]
    exact w _ F H k (Sub.refl F) (.val (.bl _))
  · cases ef
def rEqL0 (K : Fg) : R2 := fun x y H Q => ∃ a b xs, x = .ref a ∧ y = .ref b ∧ SqL K H a xs ∧ SqL K H b [] ∧ Q (.bl xs.isEmpty) H
theorem op_eqL0 (hu : X.A.units + 64 < cLine) : OpR X (compareOp .Eq) (rEqL0 X.K) := by
  intro pins s σ H x y v u Q I rx ry h
  obtain ⟨a, b, xs, rfl, rfl, h1, h2, q⟩ := h
  obtain rfl : v = Value.ref a := rx
  obtain rfl : u = Value.ref b := ry
  obtain ⟨its, rv, p, _⟩ := I.list h1
  obtain ⟨its2, rv2, p2, _⟩ := I.list h2
  cases rv2
  have hl := rv.length
  cases xs with
  | nil =>
    cases rv
    have z := SeqAt.RcAt.lists (A := X.A) (e := fun _ => true) p.isList p2.isList rfl (by omega) (fun j j1 j2 => by simp at j2)
    exact z X.prog X.w X.xe _ ⟨.bl true, H, I, rfl, q⟩
  | cons x xs =>
    have z := SeqAt.RcAt.lists_lengths (A := X.A) p.isList p2.isList (by rw [List.size_toArray, ← hl]; rfl) (by omega)
    exact z X.prog X.w X.xe _ ⟨.bl false, H, I, rfl, q⟩
def fEqL0 : F2 := fun a b => match a, b with
  | .list ds, .list [] => some (.val (.bool ds.isEmpty))
  | _, _ => none
theorem opd_eqL0 (hu : X.A.units + 64 < cLine) : OpD X (compareOp .Eq) fEqL0 := by
  refine ⟨_, op_eqL0 hu, fun e F r s H v1 v2 d1 d2 z Q k l1 l2 ef w => ?_⟩
  unfold fEqL0 at ef
  split at ef
  · rename_i ds
    cases ef
    obtain ⟨a, xs, rfl, h1, h2⟩ := l1.lst k.sub
    obtain ⟨b, ys, rfl, h3, h4⟩ := l2.lst k.sub
    cases h4
    refine ⟨a, b, xs, rfl, rfl, .inl h1, .inl h3, ?_⟩
    rw [h2.isEmpty]
    exact w _ F H k (Sub.refl F) (.val (.bl _))
  · cases ef
def fEqU : F2 := orF (orF fEqT0 fEqL0) fEq
theorem opd_eqU (hu : X.A.units + 64 < cLine) : OpD X (compareOp .Eq) fEqU := OpD.or (OpD.or (opd_eqT0 hu) (opd_eqL0 hu)) (opd_eq hu)
def kEqU : D → D → (R → Prop) → Prop
  | .tuple ds, .tuple [], K => K (.val (.bool ds.isEmpty))
  | .list ds, .list [], K => K (.val (.bool ds.isEmpty))
  | a, b, K => kEq a b K
def oEqU : OpK := ⟨fEqU, kEqU, fun d1 d2 K h => by
  have key : (∃ ds, d1 = .tuple ds ∧ d2 = .tuple []) ∨ (∃ ds, d1 = .list ds ∧ d2 = .list []) ∨ (orF fEqT0 fEqL0 d1 d2 = none ∧ kEqU d1 d2 K = kEq d1 d2 K) := by
    cases d1 <;> cases d2 <;> first
      | exact .inr (.inr ⟨rfl, rfl⟩)
      | (rename_i a b
         cases b with
         | nil => first | exact .inl ⟨_, rfl, rfl⟩ | exact .inr (.inl ⟨_, rfl, rfl⟩)
         | cons x y => exact .inr (.inr ⟨rfl, rfl⟩))
  rcases key with ⟨ds, rfl, rfl⟩ | ⟨ds, rfl, rfl⟩ | ⟨e1, e2⟩
  · exact ⟨_, rfl, h⟩
  · exact ⟨_, rfl, h⟩
  · rw [e2] at h
    obtain ⟨z, e, hz⟩ := oEq.ok _ _ _ h
    refine ⟨z, ?_, hz⟩
    show (match orF fEqT0 fEqL0 d1 d2 with | some z => some z | none => fEq d1 d2) = some z
    rw [e1]
    exact e⟩
end
end DL
namespace DL
theorem okR2_of {i j : Int} (h1 : -1000000000000000000 ≤ i) (h2 : i ≤ 1000000000000000000) (h3 : -1000000000000000000 ≤ j) (h4 : j ≤ 1000000000000000000) : (okR i && okR j) = true := by rw [okR_of h1 h2, okR_of h3 h4]; rfl
end DL
namespace DL
end DL
namespace DL
open PySem L2 PyProof.Rows
end DL
namespace DL
open PySem L2 PyProof.Rows
/-- plain: texts of signs, no list, no dict -/
def Pl (d : D) : Prop := okD d ∧ noList d = true ∧ d.hasDict = false
def Pls (ds : List D) : Prop := ∀ d ∈ ds, Pl d
theorem noListA_iff : ∀ {ds : List D}, noListA ds = true ↔ ∀ d ∈ ds, noList d = true
  | [] => by simp [noListA]
  | d :: ds => by simp [noListA, noListA_iff (ds := ds)]
theorem Pl.tup {ds : List D} : Pl (.tuple ds) ↔ Pls ds := by
  unfold Pl Pls
  constructor
  · rintro ⟨h1, h2, h3⟩ d hd
    exact ⟨okDs_iff.mp h1 d hd, noListA_iff.mp h2 d hd, hasDictAll_iff.mp (by simpa [PyData.hasDict] using h3) d hd⟩
  · intro h
    refine ⟨okDs_iff.mpr fun d hd => (h d hd).1, noListA_iff.mpr fun d hd => (h d hd).2.1, ?_⟩
    have := hasDictAll_iff.mpr fun d hd => (h d hd).2.2
    simpa [PyData.hasDict] using this
/-- what comes of a plain thing of size n and depth k by one change -/
def Bt (n k : Nat) (o : D) : Prop := okD o ∧ wt o ≤ n ∧ o.depth ≤ k ∧ (noList o = true ∨ o.hasDict = false)
theorem Bt.mono {n k n' k' : Nat} {o : D} (h : Bt n k o) (h1 : n ≤ n') (h2 : k ≤ k') : Bt n' k' o := ⟨h.1, Nat.le_trans h.2.1 h1, Nat.le_trans h.2.2.1 h2, h.2.2.2⟩
theorem Pl.bt {d : D} (h : Pl d) : Bt (wt d) d.depth d := ⟨h.1, Nat.le_refl _, Nat.le_refl _, .inl h.2.1⟩
theorem Bt.repr {n k : Nat} {o : D} (h : Bt n k o) (h1 : n ≤ 1000000) (h2 : k ≤ 64) : reprOk o = true := by
  obtain ⟨a, b, c, d⟩ := h
  have := shown_le o a
  have e : sizeLine = 16777216 := sizeLine_eq
  unfold reprOk
  rw [ok_showable o a, decide_eq_true (by omega : o.shown.length ≤ sizeLine), decide_eq_true (by omega : o.depth ≤ 64)]
  rcases d with d | d
  · rw [d]; simp
  · rw [d]; rfl
theorem Bt.plain {C : List D} (hC : Pls C) : Bt (wts C + 4) (PyData.depthAll C + 1) (.tuple C) := by
  have := (Pl.tup.mpr hC).bt
  exact this.mono (by rw [wt]; omega) (by simp only [PyData.depth]; omega)
theorem Bt.list {C : List D} (hC : Pls C) : Bt (wts C + 4) (PyData.depthAll C + 1) (.list C) := by
  refine ⟨okDs_iff.mpr fun d hd => (hC d hd).1, by rw [wt]; omega, by simp only [PyData.depth]; omega, .inr ?_⟩
  have := hasDictAll_iff.mpr fun d hd => (hC d hd).2.2
  simpa [PyData.hasDict] using this
end DL
namespace DL
open PySem L2 PyProof.Rows
/-- the dict of slot i -/
def bxD (r : Rho) (i : Nat) : Option (Bool × List (D × D)) := match r[i]? with
  | some (some (.box b (.K kvs))) => some (b, kvs)
  | _ => none
theorem bxD_of {r : Rho} {i : Nat} {q : Bool × List (D × D)} (h : bxD r i = some q) : r[i]? = some (some (.box q.1 (.K q.2))) := by
  unfold bxD at h
  split at h
  · rename_i b kvs e; cases h; exact e
  · cases h
def isDc (r : Rho) (i : Nat) : Bool := (bxD r i).isSome
theorem Ok.dct {K : Fg} {e : En} {F : Hp} {r : Rho} {s : L2.St} {H : Hp} {i : Nat} {b : Bool} {ds : List (D × D)} (k : Ok K e F r s H) (h : r[i]? = some (some (Ce.box b (.K ds)))) :
    ∃ p kvs, s[i]? = some (some (V.ref p)) ∧ H p = some (.dK kvs) ∧ ds.map (·.1) = kvs.map (fun p => kD p.1) ∧ RpA K F (kvs.map (·.2)) (ds.map (·.2)) ∧ F p = none := by
  obtain ⟨p, o, h1, h2, h3, h4, _⟩ := k.box i b _ h
  cases h3 with
  | K q1 q2 => exact ⟨p, _, h1, h2, q1, q2, h4⟩
section
variable {X : Cx} {a b c : Expr} {ma mb mc : ME} {pos pos' p p' apos : Pos} {x : Str} {i : Nat}
/-- k in x, k not in x -/
def mDIn (neg : Bool) (i : Nat) (mb : ME) : ME := fun r P => mb r fun y r1 => onP (bxD r1 i) fun _ kvs => onO (look r1 y.tmp) fun d => onO (kOf d) fun k => P (.val (.bool (xor neg (dGet kvs k).isSome))) r1
theorem din_read {e : En} {neg : Bool} {s : L2.St} {H : Hp} {Q : VK} (h : T X.K e (mDIn neg i mb) s H Q) :
    (Tt X.K e (mTmp mb)) s H fun y H1 => tVar i s H1 fun x H2 => ∃ a o, x = .ref a ∧ DGet H2 a y o ∧ Q (.bl (xor neg o.isSome)) H2 := by
  obtain ⟨F, r, k, P, hm, hP⟩ := h
  refine ⟨F, r, k, fun y r1 => onP (bxD r1 i) fun _ kvs => onO (look r1 y) fun d => onO (kOf d) fun k => P (.val (.bool (xor neg (dGet kvs k).isSome))) r1, hm, fun y r1 v F1 H1 hy k1 q1 t1 => ?_⟩
  obtain ⟨bb, kvs, e1, h1⟩ := onP.ex hy
  obtain ⟨d, e2, h2⟩ := onO.ex h1
  obtain ⟨kk, e3, h3⟩ := onO.ex h2
  obtain ⟨ad, vs, g1, g2, g3, g4, _⟩ := k1.dct (bxD_of e1)
  have lk := (t1.look k1 e2).key e3
  subst lk
  refine ⟨.ref ad, g1, ad, valV vs kk, rfl, .k g2, ?_⟩
  have : (valV vs kk).isSome = (dGet kvs kk).isSome := by
    rcases val_get (k := kk) g3 g4 with ⟨z1, z2⟩ | ⟨_, _, z1, z2, _⟩ <;> rw [z1, z2] <;> rfl
  rw [this]
  exact hP _ r1 _ F1 H1 h3 k1 q1 (.val (.bl _))
theorem de_din (hu : X.A.units + 1 < cLine) (hN : X.N[i]? = some x) (hv : Vis X.env.scope x) (hb : DE X b mb) (hmk : behindInMarks .In (.Name x p) = false := by rfl) (hd : (x == ("__debug__" : Str)) = false := by decide) (hcd : (x == ("__classdict__" : Str)) = false := by decide) : DE X (.Compare b [.In] [.Name x p] pos) (mDIn false i mb) := fun e =>
  PE.imp (pe_cmp (pc_din hu (hb.tmp e) (pe_var hN hv hd hcd)) hmk) fun s H Q h => by
    have := din_read h
    simp only [Bool.false_xor] at this
    exact this
theorem PE.or {t u : TE} (h : PE X a t) (g : PE X a u) : PE X a (fun s H Q => t s H Q ∨ u s H Q) := ⟨fun pins s σ H Q I q => q.elim (h.run pins s σ H Q I) (g.run pins s σ H Q I)⟩
theorem PT.or {t u : TT} (h : PT X a t) (g : PT X a u) : PT X a (fun s H Q => t s H Q ∨ u s H Q) := ⟨fun pins s σ H Q I q => q.elim (h.run pins s σ H Q I) (g.run pins s σ H Q I)⟩
theorem PS.or {st : Stmt} {t u : TS} (h : PS X st t) (g : PS X st u) : PS X st (fun D s H => t D s H ∨ u D s H) := ⟨fun pins s σ H D I q => q.elim (h.run pins s σ H D I) (g.run pins s σ H D I)⟩
def mSel (i : Nat) (m n : ME) : ME := fun r P => match isDc r i with
  | true => m r P
  | false => n r P
theorem de_sel {m n : ME} (h : DE X a m) (g : DE X a n) : DE X a (mSel i m n) := fun e => PE.imp (PE.or (h e) (g e)) fun s H Q ⟨F, r, k, P, hm, hP⟩ => by
  unfold mSel at hm
  split at hm
  · exact .inl ⟨F, r, k, P, hm, hP⟩
  · exact .inr ⟨F, r, k, P, hm, hP⟩
/-- the pairs, one by one -/
def strictK (l : List (D × D)) (K : List (D × D) → Prop) : Prop := match l with
  | [] => K []
  | (a, b) :: l => strictK l fun l' => K ((a, b) :: l')
theorem strictK.ex : ∀ {l : List (D × D)} {K : List (D × D) → Prop}, strictK l K → K l
  | [], _, h => h
  | d :: l, K, h => strictK.ex (l := l) (K := fun l' => K (d :: l')) h
theorem Lk.dK {K : Fg} {F H : Hp} {v : V} {m : MB} {ds : List (D × D)} (h : ∃ p o, v = .ref p ∧ H p = some o ∧ MO K F o m) (e : m = .K ds) : ∃ a kvs, v = .ref a ∧ H a = some (.dK kvs) ∧ ds.map (·.1) = kvs.map (fun p => kD p.1) ∧ RpA K F (kvs.map (·.2)) (ds.map (·.2)) := by
  obtain ⟨p, o, h1, h2, h3⟩ := h
  subst e
  cases h3 with
  | K q1 q2 => exact ⟨p, _, h1, h2, q1, q2⟩
def mDLen (i : Nat) : ME := fun r P => onP (bxD r i) fun _ kvs => P (.val (.int kvs.length)) r
theorem de_dlen (hg : Gl X "len") (hm : X.mg "len" = none) (hN : X.N[i]? = some x) (hv : Vis X.env.scope x) (hs : starEach [.Name x p] X.env = [(false, eval (.Name x p) X.env)] := by rfl) (hpl : (backTo pos (starEach [] X.env)).any (·.1) = false := by rfl) (hd : (x == ("__debug__" : Str)) = false := by decide) (hcd : (x == ("__classdict__" : Str)) = false := by decide) :
    DE X (.Call (.Name "len" p') [.Name x p] [] pos) (mDLen i) := fun e =>
  PE.imp (pe_callB call_lenD hg hm boot_len (pa_cons (pe_var hN hv hd hcd) pa_nil hs)) fun s H Q ⟨F, r, k, P, hm, hP⟩ => by
    obtain ⟨bb, kvs, e1, h1⟩ := onP.ex hm
    obtain ⟨ad, vs, w1, w2, w3, w4, _⟩ := k.dct (bxD_of e1)
    have l2 : vs.length = kvs.length := by
      have := congrArg List.length w3
      simpa using this.symm
    refine ⟨.ref ad, w1, ad, vs, rfl, w2, ?_⟩
    rw [l2]
    exact hP _ r _ F H h1 k (Sub.refl F) (.val (.int _))
end
end DL
namespace DL
open PySem L2 PyProof.Rows
end DL
namespace DL
open PySem L2 PyProof.Rows
end DL
namespace DL
open PySem L2 PyProof.Rows
end DL
namespace DL
open PySem L2 PyProof.Rows
end DL
namespace DL
open PySem PySem.Spec L2 PyProof.Rows
end DL
namespace DL
open PySem L2 PyProof.Rows
end DL
namespace DL
open PySem L2 PySem.Spec PyProof.Rows
end DL
namespace DL
open PySem L2 PyProof.Rows PpSet
end DL
namespace DL
open PySem L2 PyProof.Rows
end DL
namespace DL
open PySem L2 PyProof.Rows
section
variable {prog : Program} {w : World} {A : Around} {E : Value → Shared → Prop} {s : Shared}
theorem adjust_rev (n : Nat) : Builtin.Slice.sliceAdjust none none (-1) (n : Int) = ((n : Int) - 1, -1) := by
  simp [Builtin.Slice.sliceAdjust]
theorem places_rev (n : Nat) : Builtin.Slice.slicePlaces ((n : Int) - 1) (-1) (-1) = n := by
  unfold Builtin.Slice.slicePlaces
  cases n with
  | zero => rfl
  | succ n => simp; try omega
theorem applied_rev {sl : Addr} {vs : Value} {n : Nat} {Q : Int × Int × Nat → Shared → Prop} (hs : s.heap.IsSliceOf sl .none .none vs) (ps : IsPart vs (some (-1)))
    (h : Q ((n : Int) - 1, -1, n) s) : wpAny (model prog w) A (Builtin.Slice.sliceApplied (.ref sl) (pure (n : Int))) Q E s := by
  obtain ⟨os, hos, hcs, hds⟩ := id hs
  unfold Builtin.Slice.sliceApplied Builtin.Slice.sliceFields
  refine wpAny_bind (wpAny_bind (wpAny_field hos hds (x := .none) rfl (wpAny_bind (wpAny_field hos hds (x := .none) rfl (wpAny_bind (wpAny_field hos hds (x := vs) rfl (wpAny_pure ?_)))))))
  refine wpAny_bind (HT.slicePart_ ps ?_)
  show wpAny _ _ (if ((-1 : Int) == 0) = true then _ else _) _ _ s
  rw [if_neg (by decide)]
  refine wpAny_bind (HT.slicePart_ .none (wpAny_bind (HT.slicePart_ .none (wpAny_bind (wpAny_pure ?_)))))
  show wpAny _ _ (match Builtin.Slice.sliceAdjust none none (-1) (n : Int) with | (lo, hi) => pure (lo, (-1 : Int), Builtin.Slice.slicePlaces lo hi (-1))) _ _ s
  rw [adjust_rev n]
  show wpAny _ _ (pure ((n : Int) - 1, (-1 : Int), Builtin.Slice.slicePlaces ((n : Int) - 1) (-1) (-1))) _ _ s
  rw [places_rev]
  exact wpAny_pure h
theorem pick_rev (items : Array Value) : ((List.range items.size).filterMap fun (k : Nat) => items[((items.size : Int) - 1 + (k : Int) * (-1)).toNat]?).toArray = items.toList.reverse.toArray := by
  have e : (List.range items.size).filterMap (fun (k : Nat) => items[((items.size : Int) - 1 + (k : Int) * (-1)).toNat]?) = ((List.range items.size).map fun k => items.size - 1 - k).filterMap (items[·]?) := by
    rw [List.filterMap_map]
    have go : ∀ l : List Nat, (∀ k ∈ l, k < items.size) → l.filterMap (fun (k : Nat) => items[((items.size : Int) - 1 + (k : Int) * (-1)).toNat]?) = l.filterMap ((items[·]?) ∘ fun k => items.size - 1 - k) := by
      intro l
      induction l with
      | nil => intro _; rfl
      | cons k l ih =>
        intro hl
        have hk := hl k List.mem_cons_self
        have e1 : ((items.size : Int) - 1 + (k : Int) * (-1)).toNat = items.size - 1 - k := by omega
        rw [List.filterMap_cons, List.filterMap_cons, ih fun j hj => hl j (List.mem_cons_of_mem _ hj), e1]
        rfl
    exact go _ fun k hk => List.mem_range.mp hk
  rw [e, PySem.W.krv_range, List.filterMap_reverse, PySem.W.krv_all]
theorem get_tup_rev {t sl : Addr} {items : Array Value} {vs : Value} {Q : Value → Shared → Prop} (ht : IsTup s.heap t items) (hs : s.heap.IsSliceOf sl .none .none vs) (ps : IsPart vs (some (-1)))
    (h : Q (.ref s.heap.objs.size) { s with heap := s.heap.push { cls := .type "tuple", data := .seq items.toList.reverse.toArray } })
    (hsz : items.size ≤ sizeLine) : wpAny (model prog w) A (getItem (.ref t) (.ref sl)) Q E s := by
  have fit : sizeOk (.seq items.toList.reverse.toArray) := by
    show items.toList.reverse.toArray.size ≤ sizeLine
    rw [List.size_toArray, List.length_reverse, Array.length_toList]
    exact hsz
  obtain ⟨os, hos, hcs, hds⟩ := id hs
  have ty : s.TypeIs (.ref sl) "slice" := ⟨os, hos, hcs⟩
  unfold getItem
  try with_reducible refine wpAny_holding ?_
  first | refine wpAny_bind (wpAny_pure ?_) | skip
  refine wpAny_bind (wpAny_sequenceKey ht.typeIs (by decide) ?_)
  refine wpAny_bind (wpAny_callSpecial?_slot (name := Str.ofString "__getitem__") ht.typeIs PyProof.Rows.slot_tuple_getitem (wpAny_call_entry PyProof.Rows.slot_tuple_getitem ht.typeIs entry_tuple_getitem ?_ (args_tuple_getitem _ _)))
  show wpAny _ _ (Builtin.Tuple.tupleItemsOf (.ref t) >>= _) _ _ s
  refine wpAny_bind (PyProof.Rows.tupleItemsOf_ ht ?_)
  refine wpAny_bind (wpAny_typeOf ty ?_)
  rw [if_pos (by decide)]
  refine wpAny_bind (applied_rev hs ps ?_)
  have no : ¬ ((((items.size : Int) - 1 == 0 && (-1 : Int) == 1 && items.size == items.size)) = true) := by
    intro q
    rw [Bool.and_eq_true, Bool.and_eq_true] at q
    exact absurd q.1.2 (by decide)
  show wpAny _ _ (if ((items.size : Int) - 1 == 0 && (-1 : Int) == 1 && items.size == items.size) = true then _ else _) _ _ s
  rw [if_neg no, pick_rev]
  first
    | exact wpAny_bind (m := Builtin.Tuple.tupleExact _) (wpAny_newObj_type (wpAny_pure ⟨_, rfl, wpAny_pure h⟩) fit)
    | exact wpAny_bind (m := Builtin.Tuple.tupleExact _) (wpAny_newObj_type (wpAny_bind (wpAny_pure (wpAny_pure ⟨_, rfl, wpAny_pure h⟩))) fit)
    | exact wpAny_bind (wpAny_bind (m := Builtin.Tuple.tupleExact _) (wpAny_newObj_type (wpAny_pure (wpAny_pure ⟨_, rfl, wpAny_pure h⟩)) fit))
    | exact wpAny_bind (wpAny_bind (m := Builtin.Tuple.tupleExact _) (wpAny_newObj_type (wpAny_pure ⟨_, rfl, wpAny_pure h⟩) fit))
end
end DL
namespace DL
open PySem L2 PyProof.Rows
section
variable {X : Cx} {st : Stmt}
/-- a statement that is never come to -/
def sNo : MS := fun _ _ => False
theorem ds_no : DS X st sNo := fun e => ⟨fun pins s σ H D I h => by
  obtain ⟨F, r, k, O, hm, _⟩ := h
  exact hm.elim⟩
end
end DL
namespace DL
open PySem L2 PyProof.Rows
section
variable {K : Fg} {x qual : Str} {params : Arguments} {body : List Stmt} {scope : Scope} {dvs : List V} {kws : List (Str × V)} {f : Addr} {fd : FuncData} {ps : List Str}
/-- by places and by names, of a def with defaults by place (behind the keywords' values stand all of them); no keyword-only one lacks -/
theorem Bd.pos {dds : List D} (F : FunD K x qual params body scope dvs kws f fd) (n : Nat) (ks : List Str) (ix : List (Bool × Nat)) (hd : dvs ≠ []) (hf : Flats dvs dds) (hl : ix.length = ps.length) (ho : ixOk n (ks.length + dvs.length) ix = true)
    (h : ∀ (T : Addr) (kV doc pm : Value) (an : Option Addr) (cdv ct : Value) (us ws its : List Value), us.length = n → ws.length = ks.length → its.length = dvs.length →
      ∃ k, bindArgs (PySem.W.fnOf x qual params body scope (.ref T) kV doc pm an cdv ct) ⟨us, ks.zip ws⟩ = seqItems? (.ref T) >>= k ∧ k (some its.toArray) = pure (ps.zip (DL.pick ix us (ws ++ its)))) : Bd K fd ps n ks (fun xs zs => DL.pick ix xs (zs ++ dds.map R.val)) := by
  obtain ⟨oc, od, dV, kV, doc, pm, an, cdv, ct, osl, rfl, lk, hcd, hD, hK⟩ := F.ex
  rcases hD with ⟨e, _⟩ | ⟨_, T, o, its, m, rfl, lT, oT, rT⟩
  · exact absurd e hd
  · have l3 : its.length = dvs.length := rT.length.symm
    refine ⟨fun us ws => DL.pick ix us (ws ++ its), fun vs zs => DL.pick ix vs (zs ++ dvs), ⟨fun s us ws X l1 l2 => ?_, fun r q => pick_vals r (q.append rT) ix⟩, fun vs zs l1 l2 => ?_, fun F s xs vs zs ws t q _ _ => pick_rts t (q.append hf.rts) ix⟩
    · obtain ⟨k, e1, e2⟩ := h T kV doc pm an cdv ct us ws its l1 l2 l3
      refine BindsTo.of_looks fun M => ?_
      rw [e1]
      exact looks_items X lT oT (.of_pure e2)
    · rw [pick_length (by rw [l1, List.length_append, l2]; exact ho), hl]
end
end DL
namespace DL
open PySem L2 PyProof.Rows
end DL
namespace DL
open PySem L2 PyProof.Rows
theorem range_cons (lo : Int) (n : Nat) : rangeD lo (n + 1) = .int lo :: rangeD (lo + 1) n := by
  unfold rangeD
  rw [List.range_succ_eq_map, List.map_cons, List.map_map]
  simp only [List.cons.injEq, List.map_inj_left, Function.comp]
  refine ⟨by simp, fun a _ => ?_⟩
  congr 1
  omega
end DL
namespace DL
open PySem L2 PyProof.Rows PpSet
def GoodT (w : World) (e : Int × Value) : Prop := ∃ x tk, e.2 = Value.str x tk ∧ e.1 = hashStr w x
def tOf (e : Int × Value) : Str := match e.2 with
  | .str x _ => x
  | _ => ⟨#[]⟩
def SetT (w : World) (h : Heap) (a : Addr) (S : Str → Bool) (n : Nat) : Prop :=
  ∃ o es ep t, h.get? a = some o ∧ o.ExactSet ∧ o.data = .set es ep t ∧ (∀ e ∈ es.toList, GoodT w e) ∧ (es.toList.map tOf).Nodup ∧ (∀ k, S k = true ↔ k ∈ es.toList.map tOf) ∧
    es.size < scanBound ∧ t.fits es.size = true ∧ es.size = n ∧ Ris t.place.toList ∧ (w.params.followText "set-order" = true ∨ t.led = true)
section
variable {P : Program} {w : World} {h h' : Heap} {a : Addr} {S : Str → Bool} {n : Nat}
theorem SetT.at (R : SetT w h a S n) (k : ∀ o, h.get? a = some o → h'.get? a = some o) : SetT w h' a S n := by
  obtain ⟨o, es, ep, t, ho, r⟩ := R
  exact ⟨o, es, ep, t, k o ho, r⟩
end
end DL
namespace DL
open PySem L2 PyProof.Rows PpSet
end DL
namespace DL
open PySem L2 PyProof.Rows PpSet
end DL
namespace DL
open PySem L2 PyProof.Rows
end DL
namespace DL
open PySem L2 PyProof.Rows
def revS (x : Str) : Str := ⟨x.cps.toList.reverse.toArray⟩
theorem revS_len (x : Str) : (revS x).length = x.length := by
  show x.cps.toList.reverse.toArray.size = x.cps.size
  rw [List.size_toArray, List.length_reverse, Array.length_toList]
theorem picked_rev (x : Str) (t : Tok) : (slicePicked x none none (some (-1, t))).filterMap (x.cps[·]?) = x.cps.toList.reverse := by
  have e : slicePicked x none none (some (-1, t)) = sliceRange ((x.length : Int) - 1) (-1) (-1) := rfl
  rw [e, PySem.W.krv_sliceRange, PySem.W.krv_range, List.filterMap_reverse]
  show ((List.range x.cps.size).filterMap (x.cps[·]?)).reverse = _
  rw [PySem.W.krv_all]
theorem get_str_rev {prog : Program} {w : World} {A : Around} {E : Value → Shared → Prop} {s : Shared} {x : Str} {t : Tok} {sl : Addr} {vs : Value} {Q : Value → Shared → Prop} (hs : s.heap.IsSliceOf sl .none .none vs) (ps : IsPart vs (some (-1))) (hsz : x.length ≤ sizeLine)
    (h : ∀ t' k, Q (.str (revS x) t') { s with toks := k }) : wpAny (model prog w) A (getItem (.str x t) (.ref sl)) Q E s := by
  cases ps with
  | int _ tk =>
  refine wpAny_getItem_str_slice (l := none) (u := none) (st := some (-1, tk)) hs (show ((-1 : Int) == 0) = false by decide) ?_
  unfold sliceMade
  rw [if_neg (by simp), picked_rev]
  exact ⟨by rw [show (⟨x.cps.toList.reverse.toArray⟩ : Str) = revS x from rfl, revS_len]; exact hsz, h _ _⟩
section
variable {X : Cx}
def tRevB (K : Fg) (te : TE) : TE := fun σ H Q => te σ H fun x H1 => (∃ t : Str, x = .str t ∧ t.length ≤ sizeLine ∧ Q (.str (revS t)) H1) ∨ ∃ a xs, x = .ref a ∧ ((SqT K H1 a xs ∧ newT xs.reverse H1 Q) ∨ (SqL K H1 a xs ∧ ∀ p, H1 p = none → Q (.ref p) (upd H1 p (.lst xs.reverse))))
theorem pe_revB {e : Expr} {te : TE} {k : Nat} {p1 p2 p3 pos : Pos} (he : PE X e te) : PE X (.Subscript e (.Slice none none (some (.UnaryOp .USub (.Constant (.int 1) k p1) p2)) p3) pos) (tRevB X.K te) := by
  refine ⟨fun pins s σ H Q I h => Subscript_ (thn (he.run pins s σ H _ I h) fun v s1 ⟨x, H1, I1, r1, q1⟩ => ?_)⟩
  have st : PO X (some (.UnaryOp .USub (.Constant (.int 1) k p1) p2)) (tPart (tUn (rU fun i => .int (-i)) (tC (.int 1)))) := po_some (pe_un un_neg pe_int)
  refine wpAny_Slice (thn (po_none.run pins s1 σ H1 (fun o H2 => o = none ∧ H2 = H1) I1 ⟨rfl, rfl⟩) fun vl s2 ⟨l, H2, I2, pl, el, e2⟩ => ?_)
  subst el e2
  refine thn (po_none.run pins s2 σ H2 (fun o H3 => o = none ∧ H3 = H2) I2 ⟨rfl, rfl⟩) fun vu s3 ⟨u, H3, I3, pu, eu, e3⟩ => ?_
  subst eu e3
  refine thn (st.run pins s3 σ H3 (fun o H4 => o = some (-1) ∧ H4 = H3) I3 ⟨1, rfl, -1, rfl, rfl, rfl⟩) fun vs s4 ⟨o, H4, I4, ps, eo, e4⟩ => ?_
  subst eo e4
  cases pl
  cases pu
  have I5 : Inv X pins σ H4 { s4 with heap := s4.heap.push { cls := .type "slice", data := .fields #[.none, .none, vs] } } := I4.kept (t' := s4.toks) fun b ob q => Heap.get?_push_of_some _ q
  rcases q1 with ⟨t, ex, ht, q⟩ | ⟨a, xs, ex, hx⟩
  · subst ex
    obtain ⟨u, rfl⟩ := (show ∃ u, v = Value.str t u from r1)
    show wpAny (model X.prog X.w) X.A (subscriptTail e (.Slice none none (some (.UnaryOp .USub (.Constant (.int 1) k p1) p2)) p3) (.str t u) (.ref s4.heap.objs.size)) (EP X pins σ Q) X.xe { s4 with heap := s4.heap.push { cls := .type "slice", data := .fields #[.none, .none, vs] } }
    refine tail_any (ops := [.str t u, .ref s4.heap.objs.size]) (typeIs_str _ _ _) (PySem.F.slot_str_getitem.lookup) ?_ (by with_unfolding_all rfl)
    refine get_str_rev (Heap.IsSliceOf.new _ .none .none vs) ps ht fun t' k => ?_
    exact ⟨.str (revS t), H4, I5.kept (t' := k) fun b ob q => q, ⟨t', rfl⟩, q⟩
  subst ex
  cases r1
  show wpAny (model X.prog X.w) X.A (subscriptTail e (.Slice none none (some (.UnaryOp .USub (.Constant (.int 1) k p1) p2)) p3) (.ref a) (.ref s4.heap.objs.size)) (EP X pins σ Q) X.xe { s4 with heap := s4.heap.push { cls := .type "slice", data := .fields #[.none, .none, vs] } }
  rcases hx with ⟨hx, q⟩ | ⟨hx, q⟩
  · obtain ⟨its, r, ht, hz⟩ := I5.tuple hx
    have hlen := r.length
    refine tail_any (ops := [.ref a, .ref s4.heap.objs.size]) ht.typeIs (PyProof.Rows.slot_tuple_getitem.lookup) ?_ (by with_unfolding_all rfl)
    refine get_tup_rev ht (Heap.IsSliceOf.new _ .none .none vs) ps ?_ (by rw [List.size_toArray]; omega)
    exact ep_tup I5 r.reverse (by rw [List.length_reverse]; exact hz) q
  · obtain ⟨its, r, ht, hz⟩ := I5.list hx
    have hlen := r.length
    refine tail_any (ops := [.ref a, .ref s4.heap.objs.size]) ht.isList.typeIs (PySem.slot_list_getitem.lookup) ?_ (by with_unfolding_all rfl)
    refine wpAny_getItem_list_slice ht.isList (Heap.IsSliceOf.new _ .none .none vs) .none .none ps (by decide) ?_ (by rw [List.size_toArray]; omega)
    rw [PySem.W.krv_pick]
    exact ⟨.ref _, _, I5.laid (t' := s4.toks) (o := .lst xs.reverse) (fun b ob q => Heap.get?_push_of_some _ q) (Nat.le_refl _) ⟨by rw [List.length_reverse]; exact hz, _, 0, r.reverse, Heap.get?_push_size _ rfl⟩, rfl, q _ (I5.hok.fresh (Nat.le_refl _))⟩
def KRevB (P : Po) (x : R) (r : Rho) : Prop := onO (look r x) fun d => match d with
  | .str t => Rq (t.length ≤ sizeLine) (P (.val (.str (revS t))) r)
  | .tuple ds => P (.val (.tuple ds.reverse)) r
  | .list ds => P (.own (.L ds.reverse)) r
  | _ => False
def mRevB (ma : ME) : ME := fun r P => ma r fun x r1 => KRevB P x.tmp r1
theorem de_revB {a : Expr} {ma : ME} {k : Nat} {p1 p2 p3 pos : Pos} (ha : DE X a ma) : DE X (.Subscript a (.Slice none none (some (.UnaryOp .USub (.Constant (.int 1) k p1) p2)) p3) pos) (mRevB ma) := fun e => by
  refine PE.imp (pe_revB (ha.tmp e)) fun s H Q ⟨F, r, k, P, hm, hP⟩ => ?_
  refine ⟨F, r, k, fun x r1 => KRevB P x r1, hm, fun x r1 v F1 H1 hx k1 q1 t1 => ?_⟩
  obtain ⟨d, e1, h1⟩ := onO.ex hx
  have lk := t1.look k1 e1
  split at h1
  · rename_i t
    have ev : v = .str t := lk.key (k := .inr t) rfl
    subst ev
    exact .inl ⟨t, rfl, Rq.c h1, hP _ r1 _ F1 _ (Rq.a h1) k1 q1 (.val (.str _))⟩
  · obtain ⟨a, xs, rfl, g1, g2, _⟩ := lk.tup k1.sub
    refine .inr ⟨a, xs, rfl, .inl ⟨g1, fun p o hp hd => ?_⟩⟩
    have kf := k1.free hp
    exact hP _ r1 _ _ _ h1 (k1.lay hp) (q1.trans (Sub.new kf.1)) (.val (.tup (TpOk.new hd g2.rev) (g2.rev.mono (Sub.new kf.1))))
  · obtain ⟨a, xs, rfl, g1, g2⟩ := lk.lst k1.sub
    refine .inr ⟨a, xs, rfl, .inr ⟨.inl g1, fun p hp => ?_⟩⟩
    exact hP _ r1 _ F1 _ h1 (k1.alloc hp) q1 (RR.newL k1 hp g2.rev)
  · exact h1.elim
end
end DL
namespace DL
open PySem L2 PyProof.Rows
end DL
namespace DL
open PySem L2 PyProof.Rows
end DL
namespace DL
open PySem L2 PyProof.Rows
end DL
namespace DL
open PySem L2 PyProof.Rows
section
variable {X : Cx}
def rNeT0 (K : Fg) : R2 := fun x y H Q => ∃ a b xs, x = .ref a ∧ y = .ref b ∧ SqT K H a xs ∧ SqT K H b [] ∧ Q (.bl (!xs.isEmpty)) H
theorem op_neT0 (hu : X.A.units + 64 < cLine) : OpR X (compareOp .NotEq) (rNeT0 X.K) := by
  intro pins s σ H x y v u Q I rx ry h
  obtain ⟨a, b, xs, rfl, rfl, h1, h2, q⟩ := h
  obtain rfl : v = Value.ref a := rx
  obtain rfl : u = Value.ref b := ry
  obtain ⟨its, rv, p, _⟩ := I.tuple h1
  obtain ⟨its2, rv2, p2, _⟩ := I.tuple h2
  cases rv2
  have z := SeqAt.RcNeAt.tuples (A := X.A) (e := fun _ => true) (show s.heap.IsTuple a its.toArray from p) (show s.heap.IsTuple b ([] : List Value).toArray from p2) (by omega) (fun j j1 j2 => by simp at j2)
  refine z X.prog X.w X.xe _ ⟨.bl (!xs.isEmpty), H, I, ?_, q⟩
  have hl := rv.length
  have e : ((List.range (min its.toArray.size ([] : List Value).toArray.size)).all (fun _ => true) && its.toArray.size == ([] : List Value).toArray.size) = xs.isEmpty := by
    cases xs with
    | nil => cases rv; rfl
    | cons x xs => cases rv; simp
  rw [e]; rfl
def fNeT0 : F2 := fun a b => match a, b with
  | .tuple ds, .tuple [] => some (.val (.bool (!ds.isEmpty)))
  | _, _ => none
theorem opd_neT0 (hu : X.A.units + 64 < cLine) : OpD X (compareOp .NotEq) fNeT0 := by
  refine ⟨_, op_neT0 hu, fun e F r s H v1 v2 d1 d2 z Q k l1 l2 ef w => ?_⟩
  unfold fNeT0 at ef
  split at ef
  · rename_i ds
    cases ef
    obtain ⟨a, xs, rfl, h1, h2, _⟩ := l1.tup k.sub
    obtain ⟨b, ys, rfl, h3, h4, _⟩ := l2.tup k.sub
    cases h4
    refine ⟨a, b, xs, rfl, rfl, h1, h3, ?_⟩
    rw [h2.isEmpty]
    exact w _ F H k (Sub.refl F) (.val (.bl _))
  · cases ef
def rNeL0 (K : Fg) : R2 := fun x y H Q => ∃ a b xs, x = .ref a ∧ y = .ref b ∧ SqL K H a xs ∧ SqL K H b [] ∧ Q (.bl (!xs.isEmpty)) H
theorem op_neL0 (hu : X.A.units + 64 < cLine) : OpR X (compareOp .NotEq) (rNeL0 X.K) := by
  intro pins s σ H x y v u Q I rx ry h
  obtain ⟨a, b, xs, rfl, rfl, h1, h2, q⟩ := h
  obtain rfl : v = Value.ref a := rx
  obtain rfl : u = Value.ref b := ry
  obtain ⟨its, rv, p, _⟩ := I.list h1
  obtain ⟨its2, rv2, p2, _⟩ := I.list h2
  cases rv2
  have hl := rv.length
  cases xs with
  | nil =>
    cases rv
    have z := SeqAt.RcNeAt.lists (A := X.A) (e := fun _ => true) p.isList p2.isList rfl (by omega) (fun j j1 j2 => by simp at j2)
    exact z X.prog X.w X.xe _ ⟨.bl false, H, I, rfl, q⟩
  | cons x xs =>
    have z := SeqAt.RcNeAt.lists_lengths (A := X.A) p.isList p2.isList (by rw [List.size_toArray, ← hl]; rfl) (by omega)
    exact z X.prog X.w X.xe _ ⟨.bl true, H, I, rfl, q⟩
def fNeL0 : F2 := fun a b => match a, b with
  | .list ds, .list [] => some (.val (.bool (!ds.isEmpty)))
  | _, _ => none
theorem opd_neL0 (hu : X.A.units + 64 < cLine) : OpD X (compareOp .NotEq) fNeL0 := by
  refine ⟨_, op_neL0 hu, fun e F r s H v1 v2 d1 d2 z Q k l1 l2 ef w => ?_⟩
  unfold fNeL0 at ef
  split at ef
  · rename_i ds
    cases ef
    obtain ⟨a, xs, rfl, h1, h2⟩ := l1.lst k.sub
    obtain ⟨b, ys, rfl, h3, h4⟩ := l2.lst k.sub
    cases h4
    refine ⟨a, b, xs, rfl, rfl, .inl h1, .inl h3, ?_⟩
    rw [h2.isEmpty]
    exact w _ F H k (Sub.refl F) (.val (.bl _))
  · cases ef
def fNeU : F2 := orF (orF fNeT0 fNeL0) fNe
theorem opd_neU (hu : X.A.units + 64 < cLine) : OpD X (compareOp .NotEq) fNeU := (((opd_neT0 hu).or (opd_neL0 hu)).or (opd_ne hu))
def kNeU : D → D → (R → Prop) → Prop
  | .tuple ds, .tuple [], K => K (.val (.bool (!ds.isEmpty)))
  | .list ds, .list [], K => K (.val (.bool (!ds.isEmpty)))
  | a, b, K => kNe a b K
def oNeU : OpK := ⟨fNeU, kNeU, fun d1 d2 K h => by
  have key : (∃ ds, d1 = .tuple ds ∧ d2 = .tuple []) ∨ (∃ ds, d1 = .list ds ∧ d2 = .list []) ∨ (orF fNeT0 fNeL0 d1 d2 = none ∧ kNeU d1 d2 K = kNe d1 d2 K) := by
    cases d1 <;> cases d2 <;> first
      | exact .inr (.inr ⟨rfl, rfl⟩)
      | (rename_i a b
         cases b with
         | nil => first | exact .inl ⟨_, rfl, rfl⟩ | exact .inr (.inl ⟨_, rfl, rfl⟩)
         | cons x y => exact .inr (.inr ⟨rfl, rfl⟩))
  rcases key with ⟨ds, rfl, rfl⟩ | ⟨ds, rfl, rfl⟩ | ⟨e1, e2⟩
  · exact ⟨_, rfl, h⟩
  · exact ⟨_, rfl, h⟩
  · rw [e2] at h
    obtain ⟨z, e, hz⟩ := oNe.ok _ _ _ h
    refine ⟨z, ?_, hz⟩
    show (match orF fNeT0 fNeL0 d1 d2 with | some z => some z | none => fNe d1 d2) = some z
    rw [e1]
    exact e⟩
end
end DL
namespace DL
open PySem L2 PyProof.Rows
end DL
namespace DL
open PySem L2 PyProof.Rows
section
variable {X : Cx} {x : Str} {a b : Expr} {ma mb : ME} {pos pos' : Pos} {vs : List Nat} {op : CmpOp} {o : OpK}
theorem dv (i : Nat) (hN : X.N[i]? = some x := by rfl) (hv : Vis X.env.scope x := by first | exact .inl rfl | exact .inr (.inl rfl) | exact .inr (.inr rfl)) (hd : (x == ("__debug__" : Str)) = false := by decide) (hcd : (x == ("__classdict__" : Str)) = false := by decide) : DE X (.Name x pos) (mVar i) := de_var hN hv hd hcd
theorem dst (i : Nat) (hN : X.N.Nodup) (ha : DE X a ma) (hi : X.N[i]? = some x := by rfl) (hx : Loc X.env.scope x := by first | exact .inl rfl | exact .inr rfl) (hs : swapsWith a (some (.Name x pos')) pos.line X.env = pure false := by rfl) (hf : X.fn x = true ∨ X.env.scope.names.lookup x = some .local := by first | exact .inl rfl | exact .inr rfl | assumption) :
    DS X (.Assign [.Name x pos'] a pos) (sSet i ma) := ds_set hN hi hx ha hs hf
theorem dgn (i : Nat) (hN : X.N.Nodup) (hi : X.N[i]? = some x := by rfl) (hx : Loc X.env.scope x := by first | exact .inl rfl | exact .inr rfl) (hv : i ∈ vs := by simp) (hf : X.fn x = true ∨ X.env.scope.names.lookup x = some .local := by first | exact .inl rfl | exact .inr rfl | assumption) : DG X (.Name x pos) vs (gNm i) := dg_name hN hi hx hv hf
theorem dtc (ho : OpD X (compareOp op) o.f) (ha : DE X a ma) (hb : DE X b mb) (hm : behindInMarks op b = false := by rfl) : DT X (.Compare a [op] [b] pos) (mTest (mOp o ma mb)) := dt_cmp ho ha hb hm
theorem dec (ho : OpD X (compareOp op) o.f) (ha : DE X a ma) (hb : DE X b mb) (hm : behindInMarks op b = false := by rfl) : DE X (.Compare a [op] [b] pos) (mOp o ma mb) := de_cmp ho ha hb hm
end
end DL
namespace DL
open PySem L2 PyProof.Rows
theorem fp_set {G : Gh} {n : Nat} {a : Addr} {nd nd' : Nd} (h : G[n]? = some (a, nd)) (q : fpN (a, nd') = fpN (a, nd)) : fp (G.set n (a, nd')) = fp G := by
  unfold fp
  induction G generalizing n with
  | nil => rfl
  | cons x G ih =>
    cases n with
    | zero => simp at h; subst h; simp [q]
    | succ n => simp at h; simp [ih h]
theorem fp_app (G : Gh) (x : Addr × Nd) : fp (G ++ [x]) = fp G ++ fpN x := by
  unfold fp; simp
theorem mem_set_of {α : Type} {l : List α} {n : Nat} {x y : α} (h : y ∈ l.set n x) : y = x ∨ ∃ j : Nat, j ≠ n ∧ l[j]? = some y := by
  obtain ⟨j, e⟩ := List.mem_iff_getElem?.mp h
  rcases get_set e with ⟨_, q⟩ | ⟨q1, q2⟩
  · exact .inl q.symm
  · exact .inr ⟨j, q1.symm, q2⟩
/-- two nodes at different numbers share no address -/
theorem fp_apart {G : Gh} {i j : Nat} {x y : Addr × Nd} (hn : (fp G).Nodup) (hi : G[i]? = some x) (hj : G[j]? = some y) (ne : i ≠ j) {p : Addr} (h1 : p ∈ fpN x) (h2 : p ∈ fpN y) : False := by
  induction G generalizing i j with
  | nil => simp at hi
  | cons z G ih =>
    have hn' : (fpN z ++ fp G).Nodup := by simpa [fp] using hn
    rw [List.nodup_append] at hn'
    have mem : ∀ {k : Nat} {w : Addr × Nd}, G[k]? = some w → p ∈ fpN w → p ∈ fp G := fun e m => List.mem_flatMap.mpr ⟨_, List.mem_iff_getElem?.mpr ⟨_, e⟩, m⟩
    cases i with
    | zero =>
      cases j with
      | zero => exact ne rfl
      | succ j => simp at hi hj; subst hi; exact hn'.2.2 p h1 p (mem hj h2) rfl
    | succ i =>
      cases j with
      | zero => simp at hi hj; subst hj; exact hn'.2.2 p h2 p (mem hi h1) rfl
      | succ j => simp at hi hj; exact ih hn'.2.1 hi hj (by omega)
section
variable {K : Fg} {e : En} {F : Hp} {r : Rho} {s : L2.St} {H : Hp}
def ghAt (r : Rho) (g : Nat) : Option Gh := match r[g]? with
  | some (some (.gh G)) => some G
  | _ => none
theorem ghAt_of {g : Nat} {G : Gh} (h : ghAt r g = some G) : r[g]? = some (some (.gh G)) := by
  unfold ghAt at h
  split at h
  · rename_i q; cases h; exact q
  · cases h
/-- the cell of the nodes is laid anew -/
theorem Ok.setGh {g : Nat} {G : Gh} {H' : Hp} (k : Ok K e F r s H) (hu : ∀ (j : Nat) G', r[j]? = some (some (Ce.gh G')) → j = g) (hg : GhOk K e F H' G) (nb : ∀ (j : Nat) b m p, r[j]? = some (some (Ce.box b m)) → j ≠ g → s[j]? = some (some (V.ref p)) → p ∉ fp G)
    (hs : Sub F H') (hp : Sub e.P H') (hd : ∀ a, e.old a → H' a ≠ none) (hb : ∀ (j : Nat) b m p o, r[j]? = some (some (Ce.box b m)) → s[j]? = some (some (V.ref p)) → H p = some o → H' p = some o) : Ok K e F (r.set g (some (.gh G))) s H' where
  len := by rw [List.length_set]; exact k.len
  sub := hs
  f0 := k.f0
  prot := hp
  new := k.new
  dom := hd
  slot := fun j d z => by
    rcases get_set z with ⟨_, e2⟩ | ⟨q, e2⟩
    · cases e2
    · exact k.slot j d e2
  box := fun j b m z => by
    rcases get_set z with ⟨_, e2⟩ | ⟨q, e2⟩
    · cases e2
    · obtain ⟨p, o, g1, g2, g3⟩ := k.box j b m e2
      exact ⟨p, o, g1, hb j b m p o e2 g1 g2, g3⟩
  ob := fun j ns z => by
    rcases get_set z with ⟨_, e2⟩ | ⟨q, e2⟩
    · cases e2
    · exact k.ob j ns e2
  sep := fun j1 j2 p b m b' m' z1 z2 w1 w2 => by
    rcases get_set z1 with ⟨_, e2⟩ | ⟨q1, e2⟩
    · cases e2
    · rcases get_set z2 with ⟨_, e4⟩ | ⟨q2, e4⟩
      · cases e4
      · exact k.sep j1 j2 p b m b' m' e2 e4 w1 w2
  adr := fun j n a z => by
    rcases get_set z with ⟨_, e2⟩ | ⟨q, e2⟩
    · cases e2
    · exact k.adr j n a e2
  gh := fun j G' z => by
    rcases get_set z with ⟨q, e2⟩ | ⟨q, e2⟩
    · cases e2
      refine ⟨hg, fun j2 b m p z2 w => ?_, fun j2 G2 z2 => ?_⟩
      · rcases get_set z2 with ⟨_, e4⟩ | ⟨q2, e4⟩
        · cases e4
        · exact nb j2 b m p e4 (Ne.symm q2) w
      · rcases get_set z2 with ⟨q2, e4⟩ | ⟨q2, e4⟩
        · exact q2.symm.trans q
        · exact (hu j2 G2 e4).trans q
    · exact absurd (hu j G' e2).symm q
  gpF := k.gpF
/-- a node is written -/
theorem Ok.nodeWrite {g n : Nat} {G : Gh} {a : Addr} {nd nd' : Nd} {o : HO} (k : Ok K e F r s H) (hg : r[g]? = some (some (.gh G))) (hn : G[n]? = some (a, nd)) (hd : nd ≠ .dead) (hf : fpN (a, nd') = fpN (a, nd)) (ho : NO K F o nd') (hi : ∀ C dx fs, nd' = .ins C dx fs → H dx = some (.own a) ∧ dx ≠ a) : Ok K e F (r.set g (some (.gh (G.set n (a, nd'))))) s (upd H a o) := by
  obtain ⟨w1, w2, w3⟩ := k.gh g G hg
  have ma : a ∈ fp G := mem_fp (x := (a, nd)) (List.mem_iff_getElem?.mpr ⟨n, hn⟩) hd
  have ha : a ∈ fpN (a, nd) := by
    cases nd <;> first | exact List.mem_cons_self | exact absurd rfl hd
  obtain ⟨f1, f2, f3, f4⟩ := w1.fr a ma
  refine k.setGh w3 ⟨by rw [fp_set hn hf]; exact w1.nd, fun x hx => ?_, fun p hp => ?_⟩ (fun j b m p z _ w => by rw [fp_set hn hf]; exact w2 j b m p z w) (fun b u q => ?_) (fun b u q => ?_) (fun b z => ?_) fun j b m p u z y q => ?_
  · rcases mem_set_of hx with rfl | ⟨j, q1, q2⟩
    · refine .inr ⟨⟨o, upd_same, ho⟩, fun C dx fs q => ?_⟩
      obtain ⟨i1, i2⟩ := hi C dx fs q
      rw [upd_ne i2]; exact i1
    · rcases w1.at' x (List.mem_iff_getElem?.mpr ⟨j, q2⟩) with y | ⟨⟨u, y1, y2⟩, y3⟩
      · exact .inl y
      · by_cases dd : x.2 = .dead
        · exact .inl dd
        · have mx : x.1 ∈ fpN x := by
            obtain ⟨b, m⟩ := x
            cases m <;> first | exact List.mem_cons_self | exact absurd rfl dd
          have ne : ∀ b, b ∈ fpN x → b ≠ a := fun b hb t => by subst t; exact fp_apart w1.nd q2 hn q1 hb ha
          refine .inr ⟨⟨u, by rw [upd_ne (ne _ mx)]; exact y1, y2⟩, fun C dx fs q => ?_⟩
          have mdx : dx ∈ fpN x := by
            obtain ⟨b, m⟩ := x
            cases q
            exact List.mem_cons_of_mem _ List.mem_cons_self
          rw [upd_ne (ne _ mdx)]
          exact y3 C dx fs q
  · rw [fp_set hn hf] at hp
    obtain ⟨y1, y2, y3, y4⟩ := w1.fr p hp
    refine ⟨y1, y2, y3, ?_⟩
    by_cases t : p = a
    · subst t; rw [upd_same]; simp
    · rw [upd_ne t]; exact y4
  · rw [upd_ne (ne_of_none q f1)]; exact k.sub b u q
  · rw [upd_ne (ne_of_none q f2)]; exact k.prot b u q
  · by_cases t : b = a
    · subst t; rw [upd_same]; simp
    · rw [upd_ne t]; exact k.dom b z
  · rw [upd_ne (fun t => by subst t; exact w2 j b m p z y ma)]; exact q
/-- no node yet -/
theorem Ok.ghNil {g : Nat} (k : Ok K e F r s H) (hu : ∀ (j : Nat) G', r[j]? = some (some (Ce.gh G')) → j = g) : Ok K e F (r.set g (some (.gh []))) s H :=
  k.setGh hu ⟨by simp [fp], fun x hx => by simp at hx, fun p hp => by simp [fp] at hp⟩ (fun _ _ _ _ _ _ _ h => by simp [fp] at h) k.sub k.prot k.dom fun _ _ _ _ _ _ _ w => w
end
end DL
namespace DL
open PySem L2 PyProof.Rows
def adrOf : R → Option (Nat × Addr)
  | .adr n a => some (n, a)
  | _ => none
theorem adrOf_of {x : R} {n : Nat} {a : Addr} (h : adrOf x = some (n, a)) : x = .adr n a := by
  cases x <;> first | (cases h; rfl) | cases h
def x1R : X1 → R
  | .val d => .val d
  | .adr n a => .adr n a
def onI (nd : Nd) (k : Str → Addr → List (Str × X1) → Prop) : Prop := match nd with
  | .ins C dx fs => k C dx fs
  | _ => False
theorem onI.ex {nd : Nd} {k : Str → Addr → List (Str × X1) → Prop} (h : onI nd k) : ∃ C dx fs, nd = .ins C dx fs ∧ k C dx fs := by
  cases nd <;> first | exact h.elim | exact ⟨_, _, _, rfl, h⟩
/-- x is a node of the frame -/
def onN (r : Rho) (g : Nat) (x : R) (k : Nat → Addr → Gh → Nd → Prop) : Prop := onP (adrOf x) fun n a => onO (ghAt r g) fun G => onP (G[n]?) fun a' nd => a' = a ∧ k n a G nd
theorem onN.ex {r : Rho} {g : Nat} {x : R} {k : Nat → Addr → Gh → Nd → Prop} (h : onN r g x k) : ∃ n a G nd, x = .adr n a ∧ r[g]? = some (some (.gh G)) ∧ G[n]? = some (a, nd) ∧ k n a G nd := by
  obtain ⟨n, a, e1, h1⟩ := onP.ex h
  obtain ⟨G, e2, h2⟩ := onO.ex h1
  obtain ⟨a', nd, e3, e4, h3⟩ := onP.ex h2
  subst e4
  exact ⟨n, a', G, nd, adrOf_of e1, ghAt_of e2, e3, h3⟩
section
variable {K : Fg} {e : En} {F : Hp} {r : Rho} {s : L2.St} {H : Hp}
theorem XOk.rr {v : V} {x : X1} (h : XOk K F v x) : RR K e F r s H (x1R x) v := by
  cases h with
  | val a => exact .val a
  | adr => exact .adr
theorem XsOk.get : ∀ {vs : List V} {xs : List X1} {j : Nat} {x : X1}, XsOk K F vs xs → xs[j]? = some x → ∃ v, vs[j]? = some v ∧ XOk K F v x
  | _, _, _, _, .nil, e => by simp at e
  | _, _, 0, _, .cons h _, e => by simp at e; subst e; exact ⟨_, rfl, h⟩
  | _, _, j + 1, x, .cons _ r, e => by
    obtain ⟨v, e1, h⟩ := XsOk.get (j := j) (x := x) r (by simpa using e)
    exact ⟨v, by simpa using e1, h⟩
theorem XsOk.length : ∀ {vs : List V} {xs : List X1}, XsOk K F vs xs → vs.length = xs.length
  | _, _, .nil => rfl
  | _, _, .cons _ r => by rw [List.length_cons, List.length_cons, XsOk.length r]
theorem XsOk.append : ∀ {vs ws : List V} {xs ys : List X1}, XsOk K F vs xs → XsOk K F ws ys → XsOk K F (vs ++ ws) (xs ++ ys)
  | _, _, _, _, .nil, s => s
  | _, _, _, _, .cons h r, s => .cons h (XsOk.append r s)
theorem XsOk.set {v : V} {x : X1} (h : XOk K F v x) : ∀ {vs : List V} {xs : List X1} (n : Nat), XsOk K F vs xs → XsOk K F (vs.set n v) (xs.set n x)
  | _, _, _, .nil => .nil
  | _, _, 0, .cons _ r => .cons h r
  | _, _, n + 1, .cons q r => .cons q (XsOk.set h n r)
/-- what a node that stands tells of the heap -/
theorem Ok.node {g n : Nat} {G : Gh} {a : Addr} {nd : Nd} (k : Ok K e F r s H) (hg : r[g]? = some (some (.gh G))) (hn : G[n]? = some (a, nd)) (hd : nd ≠ .dead) : ∃ o, H a = some o ∧ NO K F o nd ∧ ∀ C dx fs, nd = .ins C dx fs → H dx = some (.own a) ∧ dx ≠ a := by
  obtain ⟨w1, _, _⟩ := k.gh g G hg
  rcases w1.at' _ (List.mem_iff_getElem?.mpr ⟨n, hn⟩) with q | ⟨⟨o, q1, q2⟩, q3⟩
  · exact absurd q hd
  · refine ⟨o, q1, q2, fun C dx fs q => ⟨q3 C dx fs q, fun t => ?_⟩⟩
    subst t
    have h1 := q3 C dx fs q
    subst q
    cases q2
    rw [show H dx = _ from q1] at h1
    cases h1
end
theorem lookup_at {fs : List (Str × V)} : ∀ {j : Nat} {f : Str} {v : V}, (fs.map (·.1)).Nodup → fs[j]? = some (f, v) → fs.lookup f = some v := by
  induction fs with
  | nil => intro j f v _ h; simp at h
  | cons x fs ih =>
    intro j f v hn h
    obtain ⟨g, u⟩ := x
    rw [List.map_cons, List.nodup_cons] at hn
    cases j with
    | zero => simp at h; obtain ⟨rfl, rfl⟩ := h; simp [List.lookup]
    | succ j =>
      simp at h
      have ne : f ≠ g := fun q => hn.1 (by subst q; exact List.mem_map.mpr ⟨_, List.mem_iff_getElem?.mpr ⟨j, h⟩, rfl⟩)
      rw [List.lookup_cons, beq_false_of_ne ne]
      exact ih hn.2 h
theorem putF_set {v : V} {fs : List (Str × V)} : ∀ {j : Nat} {f : Str} {u : V}, (fs.map (·.1)).Nodup → fs[j]? = some (f, u) → putF f v fs = fs.set j (f, v) := by
  induction fs with
  | nil => intro j f u _ h; simp at h
  | cons x fs ih =>
    intro j f u hn h
    obtain ⟨g, w⟩ := x
    rw [List.map_cons, List.nodup_cons] at hn
    cases j with
    | zero => simp at h; obtain ⟨rfl, rfl⟩ := h; simp [putF]
    | succ j =>
      simp at h
      have ne : g ≠ f := fun q => hn.1 (by subst q; exact List.mem_map.mpr ⟨_, List.mem_iff_getElem?.mpr ⟨j, h⟩, rfl⟩)
      simp only [putF, if_neg ne, List.set_cons_succ]
      rw [ih hn.2 h]
theorem putF_app {v : V} {f : Str} {fs : List (Str × V)} : f ∉ fs.map (·.1) → putF f v fs = fs ++ [(f, v)] := by
  induction fs with
  | nil => intro _; rfl
  | cons x fs ih =>
    intro h
    obtain ⟨g, w⟩ := x
    simp only [List.map_cons, List.mem_cons, not_or] at h
    simp only [putF, if_neg (Ne.symm h.1), List.cons_append]
    rw [ih h.2]
/-- the fields of a node and those of its object, by place -/
theorem flds_at {K : Fg} {F : Hp} {gs : List (Str × X1)} {fs : List (Str × V)} (e1 : gs.map (·.1) = fs.map (·.1)) (e2 : XsOk K F (fs.map (·.2)) (gs.map (·.2))) {j : Nat} {f : Str} {y : X1} (h : gs[j]? = some (f, y)) : ∃ v, fs[j]? = some (f, v) ∧ XOk K F v y := by
  obtain ⟨v, w1, w2⟩ := e2.get (j := j) (x := y) (by rw [List.getElem?_map, h]; rfl)
  have h1 : (fs.map (·.1))[j]? = some f := by rw [← e1, List.getElem?_map, h]; rfl
  rw [List.getElem?_map] at w1 h1
  cases q : fs[j]? with
  | none => rw [q] at w1; cases w1
  | some z =>
    rw [q] at w1 h1
    obtain ⟨a, b⟩ := z
    cases w1; cases h1
    exact ⟨_, rfl, w2⟩
def KFld (g : Nat) (C : Str) (f : Str) (j : Nat) (P : Po) (x : R) (r : Rho) : Prop := onN r g x fun _ _ _ nd => onI nd fun C' _ fs => C' = C ∧ onP fs[j]? fun f' y => f' = f ∧ P (x1R y) r
/-- x.f, the field at place j -/
def mFld (g : Nat) (C : Str) (f : Str) (j : Nat) (m : ME) : ME := fun r P => m r fun x r1 => KFld g C f j P x r1
/-- a value that is stored in a node -/
def holdX (r : Rho) (x : R) : Option (X1 × Rho) := match x with
  | .adr n a => some (.adr n a, r)
  | x => match hold r x with
    | some (d, r1) => some (.val d, r1)
    | none => none
theorem RT.holdX {K : Fg} {e : En} {F : Hp} {r : Rho} {s : L2.St} {H : Hp} {x : R} {v : V} {w : X1} {r1 : Rho} (t : RT K F s x v) (k : Ok K e F r s H) (q : DL.holdX r x = some (w, r1)) : ∃ F', Ok K e F' r1 s H ∧ Sub F F' ∧ XOk K F' v w := by
  cases t with
  | adr => cases q; exact ⟨F, k, Sub.refl F, .adr⟩
  | val a =>
    simp only [DL.holdX] at q
    split at q
    · rename_i d r2 e1
      cases q
      obtain ⟨F', k', s', p⟩ := (RT.val a).hold k e1
      exact ⟨F', k', s', .val p⟩
    · cases q
  | bor a =>
    simp only [DL.holdX] at q
    split at q
    · rename_i d r2 e1
      cases q
      obtain ⟨F', k', s', p⟩ := (RT.bor a).hold k e1
      exact ⟨F', k', s', .val p⟩
    · cases q
  | ob a => cases q
def onF (fs : List (Str × X1)) (j : Nat) (f : Str) (w : X1) (k : List (Str × X1) → Prop) : Prop := match fs[j]? with
  | some (f', _) => f' = f ∧ k (fs.set j (f, w))
  | none => f ∉ fs.map (·.1) ∧ k (fs ++ [(f, w)])
/-- x.f = v -/
def KSetFld (g : Nat) (C : Str) (f : Str) (j : Nat) (k : Rho → Prop) (y x : R) (r : Rho) : Prop := onP (holdX r y) fun w r1 => onN r1 g x fun n a G nd => onI nd fun C' dx fs => C' = C ∧ Rq (fs.length < 1000) (onF fs j f w fun fs' => strict (r1.set g (some (.gh (G.set n (a, .ins C' dx fs'))))) k)
def sFldSet (g : Nat) (C : Str) (f : Str) (j : Nat) (mv ma : ME) : MS := fun r O => mv r fun y r1 => ma r1 fun x r2 => KSetFld g C f j O.nx y.tmp x.tmp r2
section
variable {X : Cx} {a b : Expr} {ma mv : ME} {pos pos' : Pos} {g j : Nat} {C : Str} {f : Str}
theorem de_fld (hc : Cls X.K (He.ga X.K C)) (hn : NoAttr X.K (He.ga X.K C) f) (ha : DE X a ma) (hb : attributeBase a f X.env (eval a X.env) = eval a X.env := by rfl) : DE X (.Attribute a f pos) (mFld g C f j ma) := fun e =>
  PE.imp (pe_fld (ha e) hb) fun s H Q ⟨F, r, k, P, hm, hP⟩ => ⟨F, r, k, _, hm, fun x r1 v F1 H1 hx k1 q1 t => by
    obtain ⟨n, a, G, nd, e1, e2, e3, hx2⟩ := onN.ex hx
    obtain ⟨C', dx, fs, rfl, rfl, hx3⟩ := onI.ex hx2
    obtain ⟨f', y, e4, rfl, hp⟩ := onP.ex hx3
    subst e1
    cases t
    obtain ⟨o, w1, w2, w3⟩ := k1.node e2 e3 (by intro q; cases q)
    cases w2 with
    | ins nd1 e5 e6 =>
      obtain ⟨u, y1, y2⟩ := flds_at e5 e6 e4
      exact ⟨a, _, dx, _, u, rfl, w1, hc, hn, lookup_at (by rw [← e5]; exact nd1) y1, hP _ r1 u F1 H1 hp k1 q1 y2.rr⟩⟩
theorem ds_fld (hc : Cls X.K (He.ga X.K C)) (hn : NoAttr X.K (He.ga X.K C) f) (ha : DE X a ma) (hv : DE X b mv) (hs : swapsWith b (some (.Attribute a f pos')) pos.line X.env = pure false := by rfl) : DS X (.Assign [.Attribute a f pos'] b pos) (sFldSet g C f j mv ma) := fun e =>
  PS.imp (ps_fld (ha.tmp e) (hv.tmp e) hs) fun D s H ⟨F, r, k, O, hm, h⟩ => ⟨F, r, k, fun y r1 => ma r1 fun x r2 => KSetFld g C f j O.nx y x.tmp r2, hm, fun y r1 v F1 H1 hy k1 q1 t1 => ⟨F1, r1, k1, fun x r2 => KSetFld g C f j O.nx y x r2, hy, fun x r2 u F2 H2 hx k2 q2 t2 => by
    obtain ⟨w, r3, e0, hx1⟩ := onP.ex hx
    obtain ⟨n, a, G, nd, e1, e2, e3, hx2⟩ := onN.ex hx1
    obtain ⟨C', dx, fs, rfl, rfl, hx3⟩ := onI.ex hx2
    have hz := Rq.c hx3
    have hx4 := Rq.a hx3
    subst e1
    cases t2
    obtain ⟨F3, k3, q3, xw⟩ := (t1.mono q2).holdX k2 e0
    obtain ⟨o, w1, w2, w3⟩ := k3.node e2 e3 (by intro q; cases q)
    cases w2 with
    | @ins _ _ hs _ nd1 e5 e6 =>
      have hl : hs.length = fs.length := by
        have := congrArg List.length e5
        simpa using this.symm
      refine ⟨a, _, dx, hs, rfl, w1, hc, hn, by rw [hl]; exact hz, ?_⟩
      unfold onF at hx4
      split at hx4
      · rename_i f' y' e4
        obtain ⟨rfl, hx5⟩ := hx4
        have hp := strict.ex hx5
        obtain ⟨u', y1, y2⟩ := flds_at e5 e6 e4
        have nn : ((fs.set j (f', w)).map (·.1)) = fs.map (·.1) := by
          rw [List.map_set]
          apply List.ext_getElem?
          intro i
          by_cases t : j = i
          · subst t
            have hj := (List.getElem?_eq_some_iff.mp e4).1
            rw [List.getElem?_set_self (by simpa using hj), List.getElem?_map, e4]; rfl
          · rw [List.getElem?_set_ne t]
        refine h.nx _ s F3 _ hp (k3.nodeWrite e2 e3 (by intro q; cases q) rfl ?_ fun C1 dx1 fs1 q => ?_) ((q1.trans q2).trans q3)
        · rw [putF_set (by rw [← e5]; exact nd1) y1]
          refine .ins (by rw [nn]; exact nd1) ?_ ?_
          · rw [nn, e5, List.map_set]
            apply List.ext_getElem?
            intro i
            by_cases t : j = i
            · subst t
              have hj := (List.getElem?_eq_some_iff.mp y1).1
              rw [List.getElem?_set_self (by simpa using hj), List.getElem?_map, y1]; rfl
            · rw [List.getElem?_set_ne t]
          · rw [List.map_set, List.map_set]
            exact e6.set xw j
        · cases q; exact w3 _ _ _ rfl
      · obtain ⟨nf, hx5⟩ := hx4
        have hp := strict.ex hx5
        refine h.nx _ s F3 _ hp (k3.nodeWrite e2 e3 (by intro q; cases q) rfl ?_ fun C1 dx1 fs1 q => ?_) ((q1.trans q2).trans q3)
        · rw [putF_app (by rw [← e5]; exact nf)]
          refine .ins ?_ ?_ ?_
          · rw [List.map_append, List.nodup_append]
            refine ⟨nd1, by simp, fun z hz y hy t => ?_⟩
            simp at hy
            rw [t, hy] at hz
            exact nf hz
          · rw [List.map_append, List.map_append, e5]; rfl
          · rw [List.map_append, List.map_append]
            exact e6.append (.cons xw .nil)
        · cases q; exact w3 _ _ _ rfl⟩⟩
end
end DL
namespace DL
open PySem L2 PyProof.Rows
def noBx (r : Rho) (g : Nat) : Prop := ∀ b m, r[g]? ≠ some (some (Ce.box b m))
theorem arOf_set {r : Rho} {g : Nat} (h : noBx r g) (x : R) : arOf (r.set g none) x = arOf r x := by
  cases x with
  | bor i =>
    simp only [arOf]
    by_cases q : g = i
    · subst q
      by_cases hl : g < r.length
      · rw [List.getElem?_set_self hl]
        split
        · rename_i z; cases z
        · split
          · rename_i z; exact absurd z (h _ _)
          · rfl
      · rw [List.getElem?_eq_none (by rw [List.length_set]; omega), List.getElem?_eq_none (by omega)]
    · rw [List.getElem?_set_ne q]
  | _ => rfl
theorem arsOf_set {r : Rho} {g : Nat} (h : noBx r g) : ∀ xs : List R, arsOf (r.set g none) xs = arsOf r xs
  | [] => rfl
  | x :: xs => by simp only [arsOf, arOf_set h x, arsOf_set h xs]
theorem backArs_set {g : Nat} : ∀ {xs : List R} {as : List Ar} {r r2 : Rho}, noBx r g → backArs r xs as = some r2 → backArs (r.set g none) xs as = some (r2.set g none)
  | [], as, r, r2, h, e => by
    cases as with
    | nil => cases e; rfl
    | cons => cases e
  | .bor i :: xs, as, r, r2, h, e => by
    cases as with
    | nil => cases e
    | cons a as =>
      cases a with
      | box m =>
        simp only [backArs] at e ⊢
        split at e
        · rename_i b m0 z
          have ne : g ≠ i := fun q => by subst q; exact h _ _ z
          rw [List.getElem?_set_ne ne, z]
          show backArs ((r.set g none).set i _) xs as = _
          rw [List.set_comm _ _ ne]
          exact backArs_set (fun b' m' z' => by rw [List.getElem?_set_ne ne.symm] at z'; exact h b' m' z') e
        · cases e
      | _ => cases e
  | .val _ :: xs, as, r, r2, h, e => by
    cases as with
    | nil => cases e
    | cons a as => simp only [backArs] at e ⊢; exact backArs_set h e
  | .own _ :: xs, as, r, r2, h, e => by
    cases as with
    | nil => cases e
    | cons a as => simp only [backArs] at e ⊢; exact backArs_set h e
  | .ob _ :: xs, as, r, r2, h, e => by
    cases as with
    | nil => cases e
    | cons a as => simp only [backArs] at e ⊢; exact backArs_set h e
  | .adr _ _ :: xs, as, r, r2, h, e => by
    cases as with
    | nil => cases e
    | cons a as => simp only [backArs] at e ⊢; exact backArs_set h e
/-- the nodes at the end -/
def unG : List Ar → Option (List Ar × Gh)
  | [] => none
  | [.gh G] => some ([], G)
  | a :: as => match unG as with
    | some (bs, G) => some (a :: bs, G)
    | none => none
theorem unG_of : ∀ {as bs : List Ar} {G : Gh}, unG as = some (bs, G) → as = bs ++ [.gh G]
  | [], bs, G, h => by cases h
  | a :: as, bs, G, h => by
    unfold unG at h
    split at h
    · cases h
    · rename_i q; cases q; cases h; rfl
    · rename_i a' as' _ q
      cases q
      split at h
      · rename_i cs G' e
        cases h
        rw [unG_of e]; rfl
      · cases h
def notOwn : R → Bool
  | .own _ => false
  | _ => true
section
variable {K : Fg} {e : En} {F : Hp} {r : Rho} {s : L2.St} {H : Hp}
theorem Ok.dropGh {g : Nat} (k : Ok K e F r s H) : Ok K e F (r.set g none) s H where
  len := by rw [List.length_set]; exact k.len
  sub := k.sub
  f0 := k.f0
  prot := k.prot
  new := k.new
  dom := k.dom
  slot := fun j d z => by
    rcases get_set z with ⟨_, e2⟩ | ⟨q, e2⟩
    · cases e2
    · exact k.slot j d e2
  box := fun j b m z => by
    rcases get_set z with ⟨_, e2⟩ | ⟨q, e2⟩
    · cases e2
    · exact k.box j b m e2
  ob := fun j ns z => by
    rcases get_set z with ⟨_, e2⟩ | ⟨q, e2⟩
    · cases e2
    · exact k.ob j ns e2
  sep := fun j1 j2 p b m b' m' z1 z2 w1 w2 => by
    rcases get_set z1 with ⟨_, e2⟩ | ⟨q1, e2⟩
    · cases e2
    · rcases get_set z2 with ⟨_, e4⟩ | ⟨q2, e4⟩
      · cases e4
      · exact k.sep j1 j2 p b m b' m' e2 e4 w1 w2
  adr := fun j n a z => by
    rcases get_set z with ⟨_, e2⟩ | ⟨q, e2⟩
    · cases e2
    · exact k.adr j n a e2
  gh := fun j G z => by
    rcases get_set z with ⟨_, e2⟩ | ⟨q, e2⟩
    · cases e2
    · obtain ⟨g1, g2, g3⟩ := k.gh j G e2
      refine ⟨g1, fun j2 b m p z2 w => ?_, fun j2 G' z2 => ?_⟩
      · rcases get_set z2 with ⟨_, e4⟩ | ⟨_, e4⟩
        · cases e4
        · exact g2 j2 b m p e4 w
      · rcases get_set z2 with ⟨_, e4⟩ | ⟨_, e4⟩
        · cases e4
        · exact g3 j2 G' e4
  gpF := k.gpF
theorem ArsOk.snoc {as : List Ar} {vs : List V} {G : Gh} (h : ArsOk K F H as vs) (n : ∀ (j : Nat) G, as[j]? ≠ some (.gh G)) (g : GhArg K F H G) : ArsOk K F H (as ++ [.gh G]) vs := by
  induction h with
  | nil => exact .gh g
  | gh _ => exact absurd rfl (n 0 _)
  | cons a _ ih => exact .cons a (ih fun j G z => n (j + 1) G (by simpa using z))
theorem isGh_snoc {as : List Ar} {G : Gh} {p : Addr} (n : ∀ (j : Nat) G, as[j]? ≠ some (.gh G)) (h : IsGh (as ++ [.gh G]) p) : p ∈ fp G := by
  obtain ⟨i, G', e1, e2⟩ := h
  rw [List.getElem?_append] at e1
  split at e1
  · exact absurd e1 (n i G')
  · cases z : i - as.length with
    | zero => rw [z] at e1; simp at e1; subst e1; exact e2
    | succ j => rw [z] at e1; simp at e1
theorem box_snoc {as : List Ar} {G : Gh} {j : Nat} {m : MB} : (as ++ [.gh G])[j]? = some (Ar.box m) ↔ as[j]? = some (Ar.box m) := by
  constructor
  · intro e1
    rw [List.getElem?_append] at e1
    split at e1
    · exact e1
    · cases z : j - as.length with
      | zero => rw [z] at e1; simp at e1
      | succ j => rw [z] at e1; simp at e1
  · intro h
    rw [List.getElem?_append_left (List.getElem?_eq_some_iff.mp h).1]; exact h
/-- what is wanted behind a call with nodes -/
def KG (g : Nat) (r : Rho) (xs : List R) (P : Po) : R → List Ar → Prop := fun x as' => rqB (notOwn x) (onP (unG as') fun as1 G' => onO (backArs r xs as1) fun r2 => strict (r2.set g (some (.gh G'))) fun r3 => P x r3)
theorem callG_read {n g : Nat} {xs : List R} {vs : List V} {as : List Ar} {G : Gh} {c : Ct} {P : Po} {Q : VK} (t : RTs K F s xs vs) (k : Ok K e F r s H) (ho : once (borSlots xs) = true) (ea : arsOf r xs = some as) (hg : r[g]? = some (some (.gh G))) (hl : vs.length = n)
    (hc : c (as ++ [.gh G]) (KG g r xs P)) (hP : ∀ x r3 v F' H', P x r3 → Ok K e F' r3 s H' → Sub F F' → RR K e F' r3 s H' x v → Q v H') : spD K n c vs H Q E0 := by
  obtain ⟨ha, hb⟩ := t.ars k ea
  obtain ⟨w1, w2, w3⟩ := k.gh g G hg
  have ng := arsOf_nogh ea
  have nbx : noBx r g := fun b m z => by rw [hg] at z; cases z
  have ga : GhArg K F H G := ⟨w1.nd, w1.at', fun p hp => ⟨(w1.fr p hp).1, (w1.fr p hp).2.2.2⟩⟩
  refine ⟨F, as ++ [.gh G], hl, k.sub, ha.snoc ng ga, ⟨fun i p m e1 e2 ig => ?_, fun i j p m m' e1 e2 e3 e4 => ?_⟩, _, hc, fun x as' v F' H' hx d re => ?_⟩
  · obtain ⟨i1, b1, g1, g2⟩ := hb i m (box_snoc.mp e1)
    obtain ⟨v1, u1, u2⟩ := t.get g1
    rw [e2] at u1; cases u1
    cases u2 with | bor u2 =>
    exact w2 i1 b1 m p g2 u2 (isGh_snoc ng ig)
  · obtain ⟨i1, b1, g1, g2⟩ := hb i m (box_snoc.mp e1)
    obtain ⟨i2, b2, g3, g4⟩ := hb j m' (box_snoc.mp e2)
    obtain ⟨v1, u1, u2⟩ := t.get g1
    obtain ⟨v2, u3, u4⟩ := t.get g3
    rw [e3] at u1; cases u1
    rw [e4] at u3; cases u3
    cases u2 with | bor u2 =>
    cases u4 with | bor u4 =>
    have := k.sep i1 i2 p _ _ _ _ g2 g4 u2 u4
    subst this
    exact once_apart ho g1 g3
  · obtain ⟨no, hx1⟩ := rqB.ex hx
    obtain ⟨as1, G', e1, hx2⟩ := onP.ex hx1
    obtain ⟨r2, e2, hx3⟩ := onO.ex hx2
    have hp := hx3.ex
    have e3 := unG_of e1
    subst e3
    obtain ⟨l2, b1, b2⟩ := backArs_get ho e2
    have hlen : as1.length = as.length := by
      have := d.len
      simpa using this
    obtain ⟨G2, d1, d2, d3, d4⟩ := d.gh as.length G (by simp)
    have eG : G2 = G' := by
      rw [← hlen] at d1
      simp at d1
      exact d1.symm
    subst eG
    have bx : ∀ (i : Nat) b m, r2[i]? = some (some (Ce.box b m)) → ∃ m0, r[i]? = some (some (Ce.box b m0)) := fun i b m z => by
      by_cases hi : i ∈ borSlots xs
      · obtain ⟨j, ej⟩ := borSlots_ix hi
        obtain ⟨b1, m1, m1', w1, w2, w3⟩ := b2 j i ej
        rw [w3] at z
        cases z
        exact ⟨m1, w1⟩
      · rw [b1 i hi] at z; exact ⟨m, z⟩
    have gx : ∀ (i : Nat) G', r2[i]? = some (some (Ce.gh G')) → i = g := fun i G' z => by
      by_cases hi : i ∈ borSlots xs
      · obtain ⟨j, ej⟩ := borSlots_ix hi
        obtain ⟨_, _, _, _, _, w3⟩ := b2 j i ej
        rw [w3] at z
        cases z
      · rw [b1 i hi] at z; exact w3 i G' z
    have k1 : Ok K e F' (r2.set g none) s H' := by
      refine call_okG t (k.dropGh (g := g)) ho ((arsOf_set nbx xs).trans ea) d (backArs_set nbx e2) (fun j m => box_snoc) (fun j m z => box_snoc.mpr z) fun p ig => ?_
      · have hp := isGh_snoc ng ig
        refine ⟨(w1.fr p hp).2.1, fun i b m z y => ?_, fun i G0 z => ?_⟩
        · rcases get_set z with ⟨_, q⟩ | ⟨_, q⟩
          · cases q
          · exact w2 i b m p q y hp
        · rcases get_set z with ⟨_, q⟩ | ⟨q1, q⟩
          · cases q
          · exact absurd (w3 i G0 q).symm q1
    have k2 : Ok K e F' ((r2.set g none).set g (some (.gh G2))) s H' := by
      refine k1.setGh (fun j G0 z => ?_) ⟨d2.nd, d2.at', fun p hp => ?_⟩ (fun j b m p z _ w hp => ?_) k1.sub k1.prot k1.dom fun _ _ _ _ _ _ _ w => w
      · rcases get_set z with ⟨_, q⟩ | ⟨_, q⟩
        · cases q
        · exact gx j G0 q
      · refine ⟨(d2.fr p hp).1, ?_, ?_, (d2.fr p hp).2⟩
        · rcases d3 p hp with y | y
          · exact (w1.fr p y).2.1
          · exact (k.free y).2.1
        · rcases d3 p hp with y | y
          · exact (w1.fr p y).2.2.1
          · exact fun z => absurd z (k.free y).2.2
      · rcases get_set z with ⟨_, q⟩ | ⟨_, q⟩
        · cases q
        · obtain ⟨m0, z0⟩ := bx j b m q
          rcases d3 p hp with y | y
          · exact w2 j b m0 p z0 w y
          · obtain ⟨p', o', u1, u2, _⟩ := k.box j b m0 z0
            rw [w] at u1; cases u1
            rw [y] at u2; cases u2
    rw [List.set_set] at k2
    refine hP x _ v F' H' hp k2 d.sub ?_
    cases re with
    | val a => exact .val a
    | adr => exact .adr
    | own => cases no
end
end DL
namespace DL
open PySem L2 PyProof.Rows
def KCall (g : Nat) (c : Ct) (n : Nat) (xs : List R) (P : Po) (r : Rho) : Prop := rqB (decide (xs.length = n)) (rqB (once (borSlots xs)) (onO (arsOf r xs) fun as => onO (ghAt r g) fun G => Cl c (as ++ [.gh G]) (KG g r xs P)))
theorem KCall.read {K : Fg} {e : En} {F : Hp} {r : Rho} {s : L2.St} {H : Hp} {g n : Nat} {c : Ct} {xs : List R} {vs : List V} {P : Po} {Q : VK} (h : KCall g c n xs P r) (t : RTs K F s xs vs) (k : Ok K e F r s H) (hP : ∀ x r3 v F' H', P x r3 → Ok K e F' r3 s H' → Sub F F' → RR K e F' r3 s H' x v → Q v H') : vs.length = n ∧ spD K n c vs H Q E0 := by
  obtain ⟨nn, h1⟩ := rqB.ex h
  rw [decide_eq_true_eq] at nn
  obtain ⟨ho, h2⟩ := rqB.ex h1
  obtain ⟨as, ea, h3⟩ := onO.ex h2
  obtain ⟨G, eg, h4⟩ := onO.ex h3
  have l : vs.length = n := t.length.symm.trans nn
  exact ⟨l, callG_read t k ho ea (ghAt_of eg) l h4.h hP⟩
def mFnG (g : Nat) (c : Ct) (n : Nat) (ms : MA) : ME := fun r P => ms r fun xs r1 => KCall g c n xs P r1
def mMethG (g : Nat) (C : Str) (m : Str) (c : Ct) (n : Nat) (ma : ME) (ms : MA) : ME := fun r P => ma r fun x r1 => onN r1 g x fun nn a _ nd => onI nd fun C' _ fs => C' = C ∧ m ∉ fs.map (·.1) ∧ ms r1 fun xs r2 => KCall g c n (.adr nn a :: xs) P r2
theorem lookup_none {f : Str} {fs : List (Str × V)} (h : f ∉ fs.map (·.1)) : fs.lookup f = none := by
  induction fs with
  | nil => rfl
  | cons x fs ih =>
    obtain ⟨g, u⟩ := x
    simp only [List.map_cons, List.mem_cons, not_or] at h
    rw [List.lookup_cons, beq_false_of_ne h.1]
    exact ih h.2
theorem kbn_all {K : Fg} {fd : FuncData} {ps : List Str} (hb : Binds K fd ps []) : KBn K fd ps ps.length [] (fun us _ => us ++ []) (fun vs _ => vs ++ []) := ⟨fun s us ws KX h1 h2 => hb s us KX (by rw [List.append_nil]; exact h1), fun r _ => by rw [List.append_nil, List.append_nil]; exact r⟩
section
variable {X : Cx} {a b o : Expr} {es : List Expr} {ma mv : ME} {ms : MA} {p pos apos : Pos} {g j k n : Nat} {f : Addr} {C : Str} {fd : FuncData} {ps : List Str} {c : Ct} {m x : Str}
theorem de_fnG (h : DefP X.prog X.w X.K X.mg X.base k x n c) (hr : Rm k X.A) (hgu : X.A.guards = some []) (hg : Gl X x)
    (ha : DA X (a :: es) ms) (hdb : (x == ("__debug__" : Str)) = false := by decide) (he : starEach (a :: es) X.env = (false, eval a X.env) :: starEach es X.env := by rfl) (hpl : (backTo pos (starEach es X.env)).any (·.1) = false := by rfl) :
    DE X (.Call (.Name x p) (a :: es) [] pos) (mFnG g c n ms) := fun e => by
  obtain ⟨f, fd, ps, hm, hk, F, hb, rfl⟩ := h.ex
  refine ⟨fun pins s σ H Q I h => wpAny_Call_Name_kw (ld_glob I hg hm (PySem.W.callWith_K (h₀ := X.base) I.ok.mod.kin hk (thn ((ha e).run pos pins s σ H (fun vs H1 => vs.length = ps.length ∧ spD X.K ps.length c vs H1 Q E0) I ?_) ?_) he hpl) hdb)⟩
  · obtain ⟨F, r, k, P, hm, hP⟩ := h
    exact ⟨F, r, k, _, hm, fun xs r1 vs F1 H1 hx k1 q1 t1 => KCall.read hx t1 k1 fun x r3 v F' H' hp k' q' hr => hP x r3 v F' H' hp k' (q1.trans q') hr⟩
  · rintro us s1 ⟨vs, H1, I1, r, l1, q2⟩
    exact ⟨I1.kIn, run_fnd F hr hgu (kbn_all hb) I1 r .nil l1 rfl (by rw [List.append_nil]; exact q2)⟩
theorem meth_readG {e : En} {s : L2.St} {H : Hp} {Q : VK} (h : T X.K e (mMethG g C m c n ma ms) s H Q) : T X.K e ma s H fun v H1 => ∃ a dx fs, v = .ref a ∧ H1 a = some (.ins (He.ga X.K C) dx fs) ∧ fs.lookup m = none ∧ TAl X.K e ms s H1 fun vs H2 => (V.ref a :: vs).length = n ∧ spD X.K n c (.ref a :: vs) H2 Q E0 := by
  obtain ⟨F, r, k, P, hm, hP⟩ := h
  refine ⟨F, r, k, _, hm, fun x r1 v F1 H1 hx k1 q1 t1 => ?_⟩
  obtain ⟨nn, a, G, nd, e1, e2, e3, hx2⟩ := onN.ex hx
  obtain ⟨C', dx, fs, rfl, rfl, nf, hx3⟩ := onI.ex hx2
  subst e1
  cases t1
  obtain ⟨o, w1, w2, w3⟩ := k1.node e2 e3 (by intro q; cases q)
  cases w2 with
  | ins nd1 e5 e6 =>
    refine ⟨a, dx, _, rfl, w1, lookup_none (by rw [← e5]; exact nf), F1, r1, k1, _, hx3, fun xs r2 vs F2 H2 hx4 k2 q2 t2 => ?_⟩
    exact KCall.read hx4 (.cons .adr t2) k2 fun x r3 v F' H' hp k' q' hr => hP x r3 v F' H' hp k' ((q1.trans q2).trans q') hr
theorem de_methG {pl : Sem Bool} (he : DE X o ma) (cl : Cls X.K (He.ga X.K C)) (hm : Meth X.K (He.ga X.K C) m f) (F : FnD X.prog X.w X.K X.mg X.base k f fd ps c) (hr : Rm k X.A) (hgu : X.A.guards = some []) (hb : Binds X.K fd ps []) (ha : DA X (a :: es) ms)
    (hst : starEach (a :: es) X.env = (false, eval a X.env) :: starEach es X.env := by rfl) (hpl : (backTo pos (starEach es X.env)).any (·.1) = false := by rfl)
    (ht : eval (.Call (.Attribute o m apos) (a :: es) [] pos) X.env = (do
      let ov ← eval o X.env
      standAt apos.atName
      let (f, first) ← holding [ov] (getMethod ov m pl)
      callWith pos f first (backTo pos (starEach (a :: es) X.env)) (backToKw pos (keywordEach [] X.env))) := by rfl) :
    DE X (.Call (.Attribute o m apos) (a :: es) [] pos) (mMethG g C m c ps.length ma ms) := fun e => by
  refine ⟨fun pins s σ H Q I h => ?_⟩
  refine PySem.W.methodCall_KW (pl := pl) (thn ((he e).run pins s σ H _ I (meth_readG h)) ?_) ht
  rintro u s1 ⟨x, H1, I1, rx, a, dx, fs, ex, ea, l, q⟩
  subst ex
  obtain rfl : u = Value.ref a := rx
  refine getmeth_ok I1 ea cl hm l ?_
  refine PySem.W.callWith_K (first := [.ref a]) (h₀ := X.base) I.ok.mod.kin hm.kp (thn ((ha e).run pos pins s1 σ H1 _ I1 q) ?_) hst hpl
  rintro us s2 ⟨vs, H2, I2, r, l2, q2⟩
  exact ⟨I2.kIn, run_fnd (us := .ref a :: us) (vs := .ref a :: vs) F hr hgu (kbn_all hb) I2 (.cons rfl r) .nil l2 rfl (by rw [List.append_nil]; exact q2)⟩
end
end DL
namespace DL
open PySem L2 PyProof.Rows
section
variable {K : Fg} {e : En} {F : Hp} {r : Rho} {s : L2.St} {H : Hp}
theorem Ok.insNew {g : Nat} {G : Gh} {x dx : Addr} {C : Str} (k : Ok K e F r s H) (hg : r[g]? = some (some (.gh G))) (hx : H x = none) (hdx : H dx = none) (ne : dx ≠ x) : Ok K e F (r.set g (some (.gh (G ++ [(x, .ins C dx [])])))) s (upd (upd H dx (.own x)) x (.ins (He.ga K C) dx [])) := by
  obtain ⟨w1, w2, w3⟩ := k.gh g G hg
  have k1 := k.alloc (o := HO.own x) hdx
  have hx1 : upd H dx (.own x) x = none := by rw [upd_ne (Ne.symm ne)]; exact hx
  have k2 := k1.alloc (o := HO.ins (He.ga K C) dx []) hx1
  have f1 := k.free hx
  have f2 := k.free hdx
  have n1 := k.nobox hx
  have n2 := k.nobox hdx
  obtain ⟨v1, v2, v3⟩ := k2.gh g G hg
  have mm : ∀ q, q ∈ fp (G ++ [(x, Nd.ins C dx [])]) → q ∈ fp G ∨ q = x ∨ q = dx := fun q hq => by
    rw [fp_app] at hq
    rcases List.mem_append.mp hq with h | h
    · exact .inl h
    · simp [fpN] at h; exact .inr h
  refine k2.setGh w3 ⟨?_, fun y hy => ?_, fun q hq => ?_⟩ (fun j b m q z _ w hq => ?_) k2.sub k2.prot k2.dom fun j b m q u _ _ w => w
  · rw [fp_app, List.nodup_append]
    refine ⟨w1.nd, by simp [fpN]; exact Ne.symm ne, fun y hy z hz t => ?_⟩
    subst t
    simp [fpN] at hz
    rcases hz with rfl | rfl
    · exact n1.2 g G hg hy
    · exact n2.2 g G hg hy
  · rcases List.mem_append.mp hy with h | h
    · exact v1.at' y h
    · simp at h; subst h
      refine .inr ⟨⟨_, upd_same, .ins (by simp) rfl .nil⟩, fun C1 dx1 fs q => ?_⟩
      cases q
      show upd (upd H dx (.own x)) x _ dx = _
      rw [upd_ne ne, upd_same]
  · rcases mm q hq with h | h | h
    · exact v1.fr q h
    · subst h
      exact ⟨f1.1, f1.2.1, fun z => absurd z f1.2.2, by rw [upd_same]; simp⟩
    · subst h
      exact ⟨f2.1, f2.2.1, fun z => absurd z f2.2.2, by rw [upd_ne ne, upd_same]; simp⟩
  · rcases mm q hq with h | h | h
    · exact v2 j b m q z w h
    · subst h; exact n1.1 j b m z w
    · subst h; exact n2.1 j b m z w
end
def mMake (g : Nat) (C : Str) (c : Ct) (n : Nat) (ms : MA) : ME := fun r P => ms r fun xs r1 => onO (ghAt r1 g) fun G => ∀ x dx : Addr, strict (r1.set g (some (.gh (G ++ [(x, .ins C dx [])])))) fun r2 => KCall g c n (.adr G.length x :: xs) (fun y r3 => y = .val .none ∧ P (.adr G.length x) r3) r2
section
variable {X : Cx} {a : Expr} {es : List Expr} {ms : MA} {p pos : Pos} {g k n : Nat} {C f : Addr} {fd : FuncData} {ps : List Str} {c : Ct} {x : Str}
theorem run_makeG {pins : List (Addr × Obj)} {σ : L2.St} {H : Hp} {s : Shared} {Q : VK} {us : List Value} {vs : List V} (M : L2.Mk X.K C f) (F : FnD X.prog X.w X.K X.mg X.base k f fd ps c) (hr : Rm (k + 1) X.A) (hgu : X.A.guards = some []) (hb : Binds X.K fd ps [])
    (I : L2.Inv X pins σ H s) (r : Vals vs us)
    (h : ∀ x dx, H x = none → H dx = none → dx ≠ x → (V.ref x :: vs).length = ps.length ∧ spD X.K ps.length c (.ref x :: vs) (upd (upd H dx (.own x)) x (.ins C dx [])) (fun v H2 => v = .non ∧ Q (.ref x) H2) E0) :
    wpAny (model X.prog X.w) X.A (call (.ref C) us) (EP X pins σ Q) X.xe s := by
  obtain ⟨hl, hq⟩ := h (s.heap.objs.size + 1) s.heap.objs.size (I.hok.fresh (Nat.le_succ _)) (I.hok.fresh (Nat.le_refl _)) (Nat.ne_of_lt (Nat.lt_succ_self _))
  have I2 := Inv.made (C := C) I
  have r2 : Vals (V.ref (s.heap.objs.size + 1) :: vs) (Value.ref (s.heap.objs.size + 1) :: us) := .cons rfl r
  have hl2 : (Value.ref (s.heap.objs.size + 1) :: us ++ []).length = ps.length := by
    rw [List.append_nil, ← r2.length]; exact hl
  have hbb := hb _ (Value.ref (s.heap.objs.size + 1) :: us) I2.kIn hl2
  rw [List.append_nil] at hbb
  refine wpAny_call (make_map (f := f) I.kIn M.makes M.init (beq_iff_eq.mp M.fn) (codeAny_mono (F.run _ X.stack _ _ ⟨Value.ref (s.heap.objs.size + 1) :: us, []⟩ (Value.ref (s.heap.objs.size + 1) :: us) _ _ E0 (hr.make C us []) hgu
    (I2.env0.make C us []) hbb r2 hq) fun r s' hq' => ?_))
  cases r with
  | error e => exact False.elim hq'
  | ok fl =>
    cases fl with
    | ret u =>
      obtain ⟨v, H', I3, rv, ev, q3⟩ := I2.after hq'
      subst ev
      exact ⟨rv, ⟨V.ref (s.heap.objs.size + 1), H', I3, rfl, q3⟩⟩
    | next => exact False.elim hq'
    | brk => exact False.elim hq'
    | cont => exact False.elim hq'
theorem de_make {C : Str} (M : L2.Mk X.K (He.ga X.K C) f) (F : FnD X.prog X.w X.K X.mg X.base k f fd ps c) (hr : Rm (k + 1) X.A) (hgu : X.A.guards = some []) (hg : Gl X x) (hm : X.mg x = some (.ref (He.ga X.K C))) (hb : Binds X.K fd ps [])
    (ha : DA X (a :: es) ms) (hdb : (x == ("__debug__" : Str)) = false := by decide) (he : starEach (a :: es) X.env = (false, eval a X.env) :: starEach es X.env := by rfl) (hpl : (backTo pos (starEach es X.env)).any (·.1) = false := by rfl) :
    DE X (.Call (.Name x p) (a :: es) [] pos) (mMake g C c ps.length ms) := fun e => by
  refine ⟨fun pins s σ H Q I h => wpAny_Call_Name_kw (ld_glob I hg hm (PySem.W.callWith_K (h₀ := X.base) I.ok.mod.kin M.kp (thn ((ha e).run pos pins s σ H (fun vs H1 => ∀ x dx, H1 x = none → H1 dx = none → dx ≠ x → (V.ref x :: vs).length = ps.length ∧ spD X.K ps.length c (.ref x :: vs) (upd (upd H1 dx (.own x)) x (.ins (He.ga X.K C) dx [])) (fun v H2 => v = .non ∧ Q (.ref x) H2) E0) I ?_) ?_) he hpl) hdb)⟩
  · obtain ⟨F, r, k, P, hm, hP⟩ := h
    refine ⟨F, r, k, _, hm, fun xs r1 vs F1 H1 hx k1 q1 t1 y dy h1 h2 h3 => ?_⟩
    obtain ⟨G, eg, hx2⟩ := onO.ex hx
    have hx3 := strict.ex (hx2 y dy)
    have k2 := k1.insNew (C := C) (ghAt_of eg) h1 h2 h3
    refine KCall.read hx3 (.cons .adr t1) k2 fun z r3 v F' H' hp k' q' rr => ?_
    obtain ⟨rfl, hp⟩ := hp
    cases rr with | val rp =>
    cases rp
    exact ⟨rfl, hP _ r3 _ F' H' hp k' (q1.trans q') .adr⟩
  · rintro us s1 ⟨vs, H1, I1, r, q2⟩
    exact ⟨I1.kIn, run_makeG M F hr hgu hb I1 r q2⟩
end
def noGh : Rho → Bool
  | [] => true
  | some (.gh _) :: _ => false
  | _ :: r => noGh r
theorem noGh_of : ∀ {r : Rho}, noGh r = true → ∀ (j : Nat) G, r[j]? ≠ some (some (Ce.gh G))
  | [], _, j, G => by simp
  | c :: r, h, j, G => by
    cases j with
    | zero =>
      intro z
      simp at z
      subst z
      simp [noGh] at h
    | succ j =>
      intro z
      refine noGh_of (r := r) ?_ j G (by simpa using z)
      unfold noGh at h
      split at h
      · rename_i q; cases q
      · cases h
      · rename_i q; cases q; exact h
/-- the body begins with no node, they lie in slot g -/
def sGh (g : Nat) (m : MS) : MS := fun r O => rqB (noGh r) (strict (r.set g (some (.gh []))) fun r1 => m r1 O)
theorem dss_gh {X : Cx} {body : List Stmt} {m : MS} {g : Nat} (h : DSs X body m) : DSs X body (sGh g m) := fun e =>
  PSs.imp (h e) fun D s H ⟨F, r, k, O, hm, hh⟩ => by
    obtain ⟨ng, h2⟩ := rqB.ex hm
    exact ⟨F, _, k.ghNil (g := g) fun j G z => absurd z (noGh_of ng j G), O, h2.ex, hh⟩
end DL
namespace DL
open PySem L2 PyProof.Rows
def onL (nd : Nd) (k : List X1 → Prop) : Prop := match nd with
  | .lst ws => k ws
  | _ => False
theorem onL.ex {nd : Nd} {k : List X1 → Prop} (h : onL nd k) : ∃ ws, nd = .lst ws ∧ k ws := by
  cases nd <;> first | exact h.elim | exact ⟨_, rfl, h⟩
theorem XsOk.at {K : Fg} {F : Hp} {vs : List V} {ds : List X1} {i : Int} {d : X1} (h : XsOk K F vs ds) (q : atI ds i = some d) : ∃ v, atI vs i = some v ∧ XOk K F v d := by
  unfold atI at q ⊢
  rw [h.length]
  cases z : ixN ds.length i with
  | none => rw [z] at q; cases q
  | some j =>
    rw [z] at q
    obtain ⟨v, e1, e2⟩ := h.get (show ds[j]? = some d from q)
    exact ⟨v, e1, e2⟩
theorem XsOk.take {K : Fg} {F : Hp} : ∀ {vs : List V} {ds : List X1} (n : Nat), XsOk K F vs ds → XsOk K F (vs.take n) (ds.take n)
  | _, _, 0, _ => .nil
  | _, _, _ + 1, .nil => .nil
  | _, _, n + 1, .cons h r => .cons h (XsOk.take n r)
theorem XsOk.last {K : Fg} {F : Hp} {vs : List V} {ds : List X1} {d : X1} (h : XsOk K F vs ds) (q : ds.getLast? = some d) : ∃ v, vs[vs.length - 1]? = some v ∧ XOk K F v d ∧ XsOk K F vs.dropLast ds.dropLast := by
  rw [List.getLast?_eq_getElem?] at q
  rw [← h.length] at q
  obtain ⟨v, e1, e2⟩ := h.get q
  refine ⟨v, e1, e2, ?_⟩
  rw [List.dropLast_eq_take, List.dropLast_eq_take, h.length]
  exact h.take _
/-- x.append(e) of a list that is a node -/
def mAppG (g : Nat) (ma mb : ME) : ME := fun r P => ma r fun x r1 => onN r1 g x fun n a _ nd => onL nd fun _ => mb r1 fun y r2 => onP (holdX r2 y.tmp) fun w r3 => onN r3 g (.adr n a) fun n a G nd => onL nd fun ws => Rq (ws.length < sizeLine) (strict (r3.set g (some (.gh (G.set n (a, .lst (ws ++ [w])))))) fun r4 => P (.val .none) r4)
/-- x.pop() of a list that is a node -/
def mPopG (g : Nat) (ma : ME) : ME := fun r P => ma r fun x r1 => onN r1 g x fun n a G nd => onL nd fun ws => onO ws.getLast? fun w => strict (r1.set g (some (.gh (G.set n (a, .lst ws.dropLast))))) fun r2 => P (x1R w) r2
section
variable {X : Cx} {a b o : Expr} {es : List Expr} {ma mb : ME} {ms : MA} {p pos apos : Pos} {g : Nat}
theorem de_appG (ha : DE X o ma) (hb : DE X a mb) (slot : Slot "list" "append" "list.append" := by exact PySem.F.slot_list_append) (hty : typeOf (.builtin "list.append") = pure (.type "method_descriptor") := by exact PySem.F.type_list_append)
    (hbase : attributeBase o "append" X.env (eval o X.env) = eval o X.env := by rfl)
    (hfew : ((backTo pos (starEach [a] X.env)).all (fun x => !x.1) && (backToKw pos (keywordEach [] X.env)).all (fun x => x.1.isSome) && decide ([a].length + ([] : List Keyword).length + (if ([] : List Keyword).isEmpty then 0 else 1) < 30)) = true := by rfl)
    (hline : (apos.endLine == pos.line) = true := by rfl) (hs : starEach [a] X.env = (false, eval a X.env) :: starEach [] X.env := by rfl) (hplain : (backTo pos (starEach [] X.env)).any (·.1) = false := by rfl) : DE X (.Call (.Attribute o "append" apos) [a] [] pos) (mAppG g ma mb) := fun e =>
  PE.imp (pe_bm PySem.F.plainAttrs_list slot hty mt_append (ha e) (pa_cons (hb.tmp e) pa_nil hs) hbase hfew hline hs hplain) fun s H Q ⟨F, r, k, P, hm, hP⟩ => ⟨F, r, k, _, hm, fun x r1 v1 F1 H1 hx k1 q1 t1 => by
    obtain ⟨n, a, G, nd, e1, e2, e3, hx2⟩ := onN.ex hx
    obtain ⟨ws, rfl, hx3⟩ := onL.ex hx2
    subst e1
    cases t1
    obtain ⟨o, w1, w2, _⟩ := k1.node e2 e3 (by intro q; cases q)
    cases w2 with
    | lst w2 =>
    refine ⟨.inl ⟨rfl, _, SqL.of w1⟩, F1, r1, k1, fun y r2 => onP (holdX r2 y) fun w r3 => onN r3 g (.adr n a) fun n a G nd => onL nd fun ws => Rq (ws.length < sizeLine) (strict (r3.set g (some (.gh (G.set n (a, .lst (ws ++ [w])))))) fun r4 => P (.val .none) r4), hx3, fun y r2 v2 F2 H2 hy k2 q2 t2 => ?_⟩
    obtain ⟨w, r3, e0, hy1⟩ := onP.ex hy
    obtain ⟨F3, k3, q3, xw⟩ := t2.holdX k2 e0
    obtain ⟨n', a', G', nd', e4, e5, e6, hy2⟩ := onN.ex hy1
    cases e4
    obtain ⟨ws', rfl, hy3⟩ := onL.ex hy2
    have hz := Rq.c hy3
    have hp := (Rq.a hy3).ex
    obtain ⟨o', u1, u2, _⟩ := k3.node e5 e6 (by intro q; cases q)
    cases u2 with
    | @lst xs _ u2 =>
      exact ⟨a, xs, v2, rfl, rfl, u1, by rw [u2.length]; exact hz, hP _ _ _ F3 _ hp (k3.nodeWrite e5 e6 (by intro q; cases q) rfl (.lst (u2.append (.cons xw .nil))) (by intro _ _ _ q; cases q)) ((q1.trans q2).trans q3) (.val .non)⟩⟩
theorem de_popG (ha : DE X o ma) (slot : Slot "list" "pop" "list.pop" := by exact PySem.F.slot_list_pop) (hty : typeOf (.builtin "list.pop") = pure (.type "method_descriptor") := by exact PySem.F.type_list_pop)
    (hbase : attributeBase o "pop" X.env (eval o X.env) = eval o X.env := by rfl) (hline : (apos.endLine == pos.line) = true := by rfl) : DE X (.Call (.Attribute o "pop" apos) [] [] pos) (mPopG g ma) := fun e =>
  PE.imp (pe_bm0 PySem.F.plainAttrs_list slot hty mt_pop (ha e) hbase hline) fun s H Q ⟨F, r, k, P, hm, hP⟩ => ⟨F, r, k, _, hm, fun x r1 v1 F1 H1 hx k1 q1 t1 => by
    obtain ⟨n, a, G, nd, e1, e2, e3, hx2⟩ := onN.ex hx
    obtain ⟨ws, rfl, hx3⟩ := onL.ex hx2
    obtain ⟨w, e4, hx4⟩ := onO.ex hx3
    have hp := hx4.ex
    subst e1
    cases t1
    obtain ⟨o, w1, w2, _⟩ := k1.node e2 e3 (by intro q; cases q)
    cases w2 with
    | @lst xs _ w2 =>
      obtain ⟨v, y1, y2, y3⟩ := w2.last e4
      exact ⟨.inl ⟨rfl, _, SqL.of w1⟩, a, xs, v, rfl, rfl, w1, y1, hP _ _ v F1 _ hp (k1.nodeWrite e2 e3 (by intro q; cases q) rfl (.lst y3) (by intro _ _ _ q; cases q)) q1 y2.rr⟩⟩
end
end DL
namespace DL
open PySem L2 PyProof.Rows
theorem wfld {K : Fg} {e : En} {F : Hp} {r : Rho} {s : L2.St} {H : Hp} {g n j : Nat} {G : Gh} {a dx : Addr} {C : Str} {fs : List (Str × X1)} {f : Str} {w : X1} {v : V} {kk : List (Str × X1) → Prop} (k3 : Ok K e F r s H) (e2 : r[g]? = some (some (.gh G))) (e3 : G[n]? = some (a, .ins C dx fs)) (xw : XOk K F v w) (hx4 : onF fs j f w kk) :
    ∃ hs fs', H a = some (.ins (He.ga K C) dx hs) ∧ hs.length = fs.length ∧ kk fs' ∧ Ok K e F (r.set g (some (.gh (G.set n (a, .ins C dx fs'))))) s (upd H a (.ins (He.ga K C) dx (putF f v hs))) := by
  obtain ⟨o, w1, w2, w3⟩ := k3.node e2 e3 (by intro q; cases q)
  cases w2 with
  | @ins _ _ hs _ nd1 e5 e6 =>
    have hl : hs.length = fs.length := by
      have := congrArg List.length e5
      simpa using this.symm
    unfold onF at hx4
    split at hx4
    · rename_i f' y' e4
      obtain ⟨rfl, hp⟩ := hx4
      obtain ⟨u', y1, y2⟩ := flds_at e5 e6 e4
      have nn : ((fs.set j (f', w)).map (·.1)) = fs.map (·.1) := by
        rw [List.map_set]
        apply List.ext_getElem?
        intro i
        by_cases t : j = i
        · subst t
          have hj := (List.getElem?_eq_some_iff.mp e4).1
          rw [List.getElem?_set_self (by simpa using hj), List.getElem?_map, e4]; rfl
        · rw [List.getElem?_set_ne t]
      refine ⟨hs, _, w1, hl, hp, k3.nodeWrite e2 e3 (by intro q; cases q) rfl ?_ fun C1 dx1 fs1 q => ?_⟩
      · rw [putF_set (by rw [← e5]; exact nd1) y1]
        refine .ins (by rw [nn]; exact nd1) ?_ ?_
        · rw [nn, e5, List.map_set]
          apply List.ext_getElem?
          intro i
          by_cases t : j = i
          · subst t
            have hj := (List.getElem?_eq_some_iff.mp y1).1
            rw [List.getElem?_set_self (by simpa using hj), List.getElem?_map, y1]; rfl
          · rw [List.getElem?_set_ne t]
        · rw [List.map_set, List.map_set]
          exact e6.set xw j
      · cases q; exact w3 _ _ _ rfl
    · obtain ⟨nf, hp⟩ := hx4
      refine ⟨hs, _, w1, hl, hp, k3.nodeWrite e2 e3 (by intro q; cases q) rfl ?_ fun C1 dx1 fs1 q => ?_⟩
      · rw [putF_app (by rw [← e5]; exact nf)]
        refine .ins ?_ ?_ ?_
        · rw [List.map_append, List.nodup_append]
          refine ⟨nd1, by simp, fun z hz y hy t => ?_⟩
          simp at hy
          rw [t, hy] at hz
          exact nf hz
        · rw [List.map_append, List.map_append, e5]; rfl
        · rw [List.map_append, List.map_append]
          exact e6.append (.cons xw .nil)
      · cases q; exact w3 _ _ _ rfl
def x1Int : X1 → Option Int
  | .val (.int i) => some i
  | _ => none
theorem x1Int_of {x : X1} {i : Int} (h : x1Int x = some i) : x = .val (.int i) := by
  unfold x1Int at h
  split at h
  · cases h; rfl
  · cases h
/-- x.f += e, ints -/
def sFldAdd (g : Nat) (C : Str) (f : Str) (j : Nat) (ma mv : ME) : MS := fun r O => ma r fun x r1 => onN r1 g x fun n a _ nd => onI nd fun C' _ fs => C' = C ∧ onP fs[j]? fun f' y => f' = f ∧ onO (x1Int y) fun i => mv r1 fun z r2 => onO (inOf z) fun i2 => onN r2 g (.adr n a) fun n a G nd => onI nd fun C'' dx fs => C'' = C ∧ Rq (fs.length < 1000) (onF fs j f (.val (.int (i + i2))) fun fs' => strict (r2.set g (some (.gh (G.set n (a, .ins C'' dx fs'))))) O.nx)
def KNeG (g : Nat) (P : Po) (x y : R) (r : Rho) : Prop := onN r g x fun _ _ _ nd => onL nd fun ws => onO (look r y) fun d => match d with
  | .list [] => P (.val (.bool (!ws.isEmpty))) r
  | _ => False
/-- x != [] of a list that is a node -/
def mNeG (g : Nat) (ma mb : ME) : ME := fun r P => ma r fun x r1 => mb r1 fun y r2 => KNeG g P x.tmp y.tmp r2
section
variable {X : Cx} {a b : Expr} {ma mb mv : ME} {pos tpos : Pos} {g j : Nat} {C : Str} {f : Str}
theorem ds_fldadd (hc : Cls X.K (He.ga X.K C)) (hn : NoAttr X.K (He.ga X.K C) f) (ha : DE X a ma) (hv : DE X b mv) : DS X (.AugAssign (.Attribute a f tpos) .Add b pos) (sFldAdd g C f j ma mv) := fun e =>
  PS.imp (ps_fldaug (ha e) (hv e) in_add) fun D s H ⟨F, r, k, O, hm, h⟩ => ⟨F, r, k, _, hm, fun x r1 v F1 H1 hx k1 q1 t1 => by
    obtain ⟨n, a, G, nd, e1, e2, e3, hx2⟩ := onN.ex hx
    obtain ⟨C', dx, fs, rfl, rfl, hx3⟩ := onI.ex hx2
    obtain ⟨f', y, e4, rfl, hx4⟩ := onP.ex hx3
    obtain ⟨i, e5, hx5⟩ := onO.ex hx4
    have e6 := x1Int_of e5
    subst e6
    subst e1
    cases t1
    obtain ⟨o, w1, w2, w3⟩ := k1.node e2 e3 (by intro q; cases q)
    cases w2 with
    | ins nd1 g5 g6 =>
      obtain ⟨u, y1, y2⟩ := flds_at g5 g6 e4
      cases y2 with | val rp =>
      cases rp
      refine ⟨a, _, dx, _, _, rfl, w1, hc, hn, lookup_at (by rw [← g5]; exact nd1) y1, F1, r1, k1, _, hx5, fun z r2 v2 F2 H2 hz k2 q2 t2 => ?_⟩
      obtain ⟨i2, e7, hz2⟩ := onO.ex hz
      have e8 := inOf_of e7
      subst e8
      cases t2 with | val rp =>
      cases rp
      obtain ⟨n', a', G', nd', e9, e10, e11, hz3⟩ := onN.ex hz2
      cases e9
      obtain ⟨C'', dx', fs', rfl, rfl, hz4⟩ := onI.ex hz3
      have hl := Rq.c hz4
      obtain ⟨hs, fs2, u1, u2, u3, u4⟩ := wfld (v := .int (i + i2)) k2 e10 e11 (.val (.int _)) (Rq.a hz4)
      exact ⟨i, i2, rfl, rfl, dx', hs, u1, by rw [u2]; exact hl, h.nx _ s F2 _ u3.ex u4 (q1.trans q2)⟩⟩
end
end DL
namespace DL
open PySem L2 PyProof.Rows
theorem upd2_eq {H : Hp} {p : Addr} {a b : HO} : upd (upd H p a) p b = upd H p b := by
  funext q
  by_cases z : q = p
  · subst z; rw [upd_same, upd_same]
  · rw [upd_ne z, upd_ne z, upd_ne z]
/-- the module's name x is the def at its place -/
def GaAt (K : Fg) (mg : Str → Option Value) (x : Str) : Prop := mg x = some (.ref (He.ga K x))
section
variable {X : Cx} {a b c fe : Expr} {ma mb mc mf : ME} {pos p p' apos : Pos} {x : Str} {i k n : Nat} {es : List Expr} {ms : MA} {G : List R → List R → List R}
inductive FPs (X : Cx) : List (Option Expr) → List Expr → List (Str × Str) → Prop
  | nil : FPs X [] [] []
  | cons {k f : Str} {j : Nat} {p1 p2 : Pos} {ks : List (Option Expr)} {vs : List Expr} {kvs : List (Str × Str)} (hm : GaAt X.K X.mg f) (hg : Gl X f) (r : FPs X ks vs kvs) (hd : (f == ("__debug__" : Str)) = false := by decide) :
      FPs X (some (.Constant (.str k) j p1) :: ks) (.Name f p2 :: vs) ((k, f) :: kvs)
theorem FPs.pps {ks : List (Option Expr)} {vs : List Expr} {kvs : List (Str × Str)} (h : FPs X ks vs kvs) : PPs X pos ks vs (kvs.map fun q => (tC (.str q.1), tC (.ref (He.ga X.K q.2)))) := by
  induction h with
  | nil => exact pps_nil
  | cons hm hg _ hd ih => exact pps_cons pe_str (pe_glob hg hm rfl hd) ih
end
end DL
namespace DL
open PySem L2 PyProof.Rows
section
variable {X : Cx}
def rInT (K : Fg) (neg : Bool) : R2 := fun x y H Q => ∃ d ds, Dp K H x d ∧ Dp K H y (.tuple ds) ∧ SeqAt.shaped d = true ∧ SeqAt.shaped (.tuple ds) = true ∧ Q (.bl (xor neg (ds.any fun z => PyData.eqv z d))) H
theorem op_inT (hu : X.A.units + 65 < cLine) : OpR X (compareOp .In) (rInT X.K false) := by
  intro pins s σ H x y v u Q I rx ry h
  obtain ⟨d, ds, hd, he, sd, se, q⟩ := h
  obtain ⟨as, r1⟩ := Dp.reads I d x v hd rx
  obtain ⟨bs, r2⟩ := Dp.reads I (.tuple ds) y u he ry
  rw [Bool.false_xor] at q
  exact SeqAt.in_tuple_reads r2 r1 (SeqAt.canLay_of_shaped se) (SeqAt.canLay_of_shaped sd) (room_in_shaped sd hu) ⟨.bl _, H, I, rfl, q⟩
def fInT (neg : Bool) : F2 := fun x y => match y with
  | .tuple ds => if SeqAt.shaped x && SeqAt.shaped (.tuple ds) then some (.val (.bool (xor neg (ds.any fun z => PyData.eqv z x)))) else none
  | _ => none
theorem opd_inTn {neg : Bool} {op : Value → Value → Sem Value} (h : OpR X op (rInT X.K neg)) : OpD X op (fInT neg) := by
  refine ⟨_, h, fun e F r s H v1 v2 d1 d2 z Q k l1 l2 ef w => ?_⟩
  unfold fInT at ef
  split at ef
  · split at ef
    · rename_i hf; cases ef
      rw [Bool.and_eq_true] at hf
      exact ⟨_, _, (l1.all k.sub).dp (shaped_nodict hf.1), (l2.all k.sub).dp (shaped_nodict hf.2), hf.1, hf.2, w _ F H k (Sub.refl F) (.val (.bl _))⟩
    · cases ef
  · cases ef
def fInX (neg : Bool) : F2 := orF (fInT neg) (fInB neg)
def kInX (neg : Bool) (x y : D) (K : R → Prop) : Prop := match y with
  | .tuple ds => rqB (SeqAt.shaped x && SeqAt.shaped (.tuple ds)) (K (.val (.bool (xor neg (ds.any fun z => PyData.eqv z x)))))
  | y => kInB neg x y K
theorem inX_ok (neg : Bool) (x y : D) (K : R → Prop) (h : kInX neg x y K) : ∃ z, fInX neg x y = some z ∧ K z := by
  unfold kInX at h
  split at h
  · obtain ⟨h1, h2⟩ := rqB.ex h
    exact ⟨_, by simp only [fInX, orF, fInT, h1, if_true], h2⟩
  · rename_i n
    obtain ⟨z, e, q⟩ := inB_ok neg x y K h
    refine ⟨z, ?_, q⟩
    have : fInT neg x y = none := by
      unfold fInT
      split
      · rename_i ds; exact (n ds rfl).elim
      · rfl
    simp only [fInX, orF, this, e]
def oInX : OpK := ⟨fInX false, kInX false, inX_ok false⟩
theorem opd_inX (hu : X.A.units + 65 < cLine) : OpD X (compareOp .In) oInX.f := (opd_inTn (op_inT hu)).or (opd_in hu)
end
end DL
namespace DL
open PySem L2 PyProof.Rows
def keysL : List D → Option (List Key)
  | [] => some []
  | d :: ds => match kOf d, keysL ds with
    | some k, some ks => some (k :: ks)
    | _, _ => none
def ktOf : D → Option (List Key)
  | .tuple ds => match ds.all noInt with
    | true => none
    | false => keysL ds
  | _ => none
theorem keysL_some : ∀ {ds : List D} {ks : List Key}, keysL ds = some ks → ds = ks.map kD
  | [], ks, h => by cases h; rfl
  | d :: ds, ks, h => by
    simp only [keysL] at h
    split at h
    · rename_i k ks' e1 e2
      cases h
      rw [kOf_some e1, keysL_some e2]; rfl
    · cases h
theorem keysL_kD : ∀ ks : List Key, keysL (ks.map kD) = some ks
  | [] => rfl
  | k :: ks => by rw [List.map_cons, keysL, kOf_kD, keysL_kD ks]
theorem ktOf_some {d : D} {ks : List Key} (h : ktOf d = some ks) : d = ktD ks ∧ (ks.map kD).all noInt = false := by
  cases d with
  | tuple ds =>
    simp only [ktOf] at h
    split at h
    · cases h
    · rename_i e
      have := keysL_some h
      subst this
      exact ⟨rfl, e⟩
  | _ => cases h
theorem ktOf_iff {k ks : List Key} (h : (ks.map kD).all noInt = false) : ktOf (ktD k) = some ks ↔ k = ks := by
  constructor
  · intro e
    have := (ktOf_some e).1
    simp only [ktD, PyData.tuple.injEq] at this
    have h1 := keysL_kD k
    rw [this, keysL_kD] at h1
    exact (Option.some.inj h1).symm
  · rintro rfl
    simp only [ktD, ktOf, h, keysL_kD]
theorem RpA.keys {K : Fg} {F : Hp} : ∀ {ks : List Key} {xs : List V}, RpA K F xs (ks.map kD) → xs = ks.map kV
  | [], xs, h => by cases h; rfl
  | k :: ks, xs, h => by
    cases h with
    | cons a b => rw [Rp.key a, RpA.keys b]; rfl
theorem Lk.tkey {K : Fg} {F H : Hp} {v : V} {d : D} {ks : List Key} (h : Lk K F H v d) (q : Sub F H) (e : ktOf d = some ks) : ∃ b, v = .ref b ∧ H b = some (.tup (ks.map kV)) := by
  obtain ⟨rfl, n⟩ := ktOf_some e
  generalize hd : ktD ks = d at h
  cases h with
  | rp a =>
    subst hd
    cases a with
    | tup a b =>
      rcases a with ⟨a, _⟩ | ⟨_, a⟩
      · rw [RpA.keys b] at a; exact ⟨_, rfl, q _ _ a⟩
      · rw [n] at a; cases a
  | @mo p o m a b => cases m <;> cases hd
end DL
namespace DL
open PySem L2 PyProof.Rows
/-- the k-th statement of a class -/
def clsAt : Stmt → Nat → Stmt
  | .ClassDef _ _ _ body _ _ _ _ _ _ _, k => body.getD k (.Pass ⟨0, 0, 0, 0⟩)
  | _, _ => .Pass ⟨0, 0, 0, 0⟩
/-- the class x of the module has the method m, which keeps c -/
structure MethP (P : Program) (w : World) (K : Fg) (mg : Str → Option Value) (base : Heap) (k : Nat) (C m : Str) (n : Nat) (c : Ct) : Prop where
  ex : ∃ f fd ps, Meth K (He.ga K C) m f ∧ FnD P w K mg base k f fd ps c ∧ Binds K fd ps [] ∧ ps.length = n
theorem MethP.of {P : Program} {w : World} {K : Fg} {mg : Str → Option Value} {base : Heap} {k : Nat} {C m : Str} {c : Ct} {f : Addr} {fd : FuncData} {ps : List Str} (hm : Meth K (He.ga K C) m f) (F : FnD P w K mg base k f fd ps c) (hb : Binds K fd ps []) : MethP P w K mg base k C m ps.length c := ⟨⟨f, fd, ps, hm, F, hb, rfl⟩⟩
/-- the class x of the module is made by what keeps c -/
structure MakeP (P : Program) (w : World) (K : Fg) (mg : Str → Option Value) (base : Heap) (k : Nat) (x : Str) (n : Nat) (c : Ct) : Prop where
  ex : ∃ j f fd ps, j + 1 ≤ k ∧ L2.Mk K (He.ga K x) f ∧ FnD P w K mg base j f fd ps c ∧ Binds K fd ps [] ∧ ps.length = n ∧ mg x = some (.ref (He.ga K x))
theorem MakeP.of {P : Program} {w : World} {K : Fg} {mg : Str → Option Value} {base : Heap} {j k : Nat} {x : Str} {c : Ct} {f : Addr} {fd : FuncData} {ps : List Str} (hj : j + 1 ≤ k) (hg : mg x = some (.ref (He.ga K x))) (hm : L2.Mk K (He.ga K x) f) (F : FnD P w K mg base j f fd ps c) (hb : Binds K fd ps []) : MakeP P w K mg base k x ps.length c := ⟨⟨j, f, fd, ps, hj, hm, F, hb, rfl, hg⟩⟩
section
variable {X : Cx} {a b o : Expr} {es : List Expr} {ma mv : ME} {ms : MA} {p pos apos : Pos} {g j k n : Nat} {C m x : Str} {c : Ct}
theorem de_mth {pl : Sem Bool} (h : MethP X.prog X.w X.K X.mg X.base k C m n c) (cl : Cls X.K (He.ga X.K C)) (hr : Rm k X.A) (hgu : X.A.guards = some []) (he : DE X o ma) (ha : DA X (a :: es) ms)
    (hst : starEach (a :: es) X.env = (false, eval a X.env) :: starEach es X.env := by rfl) (hpl : (backTo pos (starEach es X.env)).any (·.1) = false := by rfl)
    (ht : eval (.Call (.Attribute o m apos) (a :: es) [] pos) X.env = (do
      let ov ← eval o X.env
      standAt apos.atName
      let (f, first) ← holding [ov] (getMethod ov m pl)
      callWith pos f first (backTo pos (starEach (a :: es) X.env)) (backToKw pos (keywordEach [] X.env))) := by rfl) :
    DE X (.Call (.Attribute o m apos) (a :: es) [] pos) (mMethG g C m c n ma ms) := by
  obtain ⟨f, fd, ps, h1, h2, h3, rfl⟩ := h.ex
  exact de_methG he cl h1 h2 hr hgu h3 ha hst hpl ht
theorem de_mk (h : MakeP X.prog X.w X.K X.mg X.base k x n c) (hr : Rm k X.A) (hgu : X.A.guards = some []) (hg : Gl X x) (ha : DA X (a :: es) ms)
    (hdb : (x == ("__debug__" : Str)) = false := by decide) (he : starEach (a :: es) X.env = (false, eval a X.env) :: starEach es X.env := by rfl) (hpl : (backTo pos (starEach es X.env)).any (·.1) = false := by rfl) :
    DE X (.Call (.Name x p) (a :: es) [] pos) (mMake g x c n ms) := by
  obtain ⟨j, f, fd, ps, hj, h1, h2, h3, rfl, h4⟩ := h.ex
  exact de_make h1 h2 (hr.mono hj) hgu hg h4 h3 ha hdb he hpl
theorem neG_read {ma mb : ME} {e : En} {s : L2.St} {H : Hp} {Q : VK} (h : T X.K e (mNeG g ma mb) s H Q) : tOp (fun x y H Q => ∃ a b xs, x = .ref a ∧ y = .ref b ∧ SqL X.K H a xs ∧ SqL X.K H b [] ∧ Q (.bl (!xs.isEmpty)) H) (Tt X.K e (mTmp ma)) (Tt X.K e (mTmp mb)) s H Q := by
  obtain ⟨F, r, k, P, hm, hP⟩ := h
  refine ⟨F, r, k, fun x r1 => mb r1 fun y r2 => KNeG g P x y.tmp r2, hm, fun x r1 v1 F1 H1 hx k1 q1 t1 => ⟨F1, r1, k1, fun y r2 => KNeG g P x y r2, hx, fun y r2 v2 F2 H2 hy k2 q2 t2 => ?_⟩⟩
  obtain ⟨n, a, G, nd, e1, e2, e3, hx2⟩ := onN.ex hy
  obtain ⟨ws, rfl, hx3⟩ := onL.ex hx2
  obtain ⟨d, e4, hx4⟩ := onO.ex hx3
  subst e1
  cases t1
  obtain ⟨o, w1, w2, _⟩ := k2.node e2 e3 (by intro q; cases q)
  cases w2 with
  | @lst xs _ w2 =>
    split at hx4
    · obtain ⟨b, ys, rfl, h3, h4⟩ := (t2.look k2 e4).lst k2.sub
      cases h4
      refine ⟨a, b, xs, rfl, rfl, SqL.of w1, .inl h3, ?_⟩
      have he : xs.isEmpty = ws.isEmpty := by cases w2 <;> rfl
      rw [he]
      exact hP _ r2 _ F2 H2 hx4 k2 (q1.trans q2) (.val (.bl _))
    · exact hx4.elim
theorem dt_neG {mb : ME} (hu : X.A.units + 64 < cLine) (ha : DE X a ma) (hb : DE X b mb) (hm : behindInMarks .NotEq b = false := by rfl) : DT X (.Compare a [.NotEq] [b] pos) (mTest (mNeG g ma mb)) := fun e =>
  PT.imp (pt_cmpR (op_neL0 hu) (ha.tmp e) (hb.tmp e) hm) fun s H Q h => tTest_of (fun s H Q h => neG_read h) h
end
end DL
namespace DL
open PySem PySem.Spec L2 PyProof.Rows
end DL
namespace DL
open PySem L2 PyProof.Rows
end DL
namespace DL
open PySem L2 PyProof.Rows
end DL
namespace DL
open PySem L2 PyProof.Rows
end DL
namespace DL
open PySem PySem.Spec L2 PyProof.Rows PpSet
end DL
namespace DL
open PySem L2 PyProof.Rows PpSet
end DL
namespace DL
open PySem L2 PyProof.Rows
end DL
namespace DL
open PySem L2 PyProof.Rows
end DL
namespace PySem
namespace DLX
open PySem.W PySem.Calls PyProof.Rows PySem.HandSPX Builtin Builtin.ObjectAttr
/-- own classes, then the tail -/
def refsT (tl : List Value) : List Value → Bool
  | .ref _ :: r => refsT tl r
  | l => l == tl
structure TlOk (tl : List Value) : Prop where
  pass : ∀ self : Value, refuseLoop self "__setattr__" tl = pure ()
  ty : ∃ T r, tl = .type T :: r
theorem refsT_cases {tl : List Value} : ∀ l : List Value, refsT tl l = true → (∃ c r, l = .ref c :: r ∧ refsT tl r = true) ∨ l = tl
  | [], e => .inr (beq_iff_eq.mp e)
  | v :: r, e => by
    cases v with
    | ref c => exact .inl ⟨c, r, rfl, e⟩
    | _ => exact .inr (beq_iff_eq.mp e)
theorem refsT_pass {tl : List Value} (T : TlOk tl) (self : Value) : ∀ l : List Value, refsT tl l = true → refuseLoop self "__setattr__" l = pure ()
  | [], e => by
    obtain ⟨_, _, q⟩ := T.ty
    rcases refsT_cases [] e with ⟨c, r, z, _⟩ | z
    · cases z
    · rw [q] at z; cases z
  | a :: r, e => by
    rcases refsT_cases (a :: r) e with ⟨c, r', z, h⟩ | z
    · cases z
      rw [refuseLoop_ref]
      exact refsT_pass T self r h
    · rw [z]; exact T.pass self
theorem refsT_has {tl : List Value} (T : TlOk tl) (X : String) : ∀ l : List Value, refsT tl l = true → l.contains (.type X) = tl.contains (.type X)
  | [], e => by
    obtain ⟨_, _, q⟩ := T.ty
    rcases refsT_cases [] e with ⟨c, r, z, _⟩ | z
    · cases z
    · rw [q] at z; cases z
  | a :: r, e => by
    rcases refsT_cases (a :: r) e with ⟨c, r', z, h⟩ | z
    · cases z
      rw [List.contains_cons, refsT_has T X r h]; rfl
    · rw [z]
theorem refsT_ne {tl : List Value} (T : TlOk tl) {l : List Value} (e : refsT tl l = true) : l.isEmpty = false := by
  cases l with
  | nil =>
    obtain ⟨_, _, q⟩ := T.ty
    rcases refsT_cases [] e with ⟨c, r, z, _⟩ | z
    · cases z
    · rw [q] at z; cases z
  | cons => rfl
abbrev keTail : List Value := [.type "KeyError", .type "LookupError", .type "Exception", .type "BaseException", .type "object"]
theorem tl_VE : TlOk veTail := ⟨fun self => F.store_ValueError.passes self, _, _, rfl⟩
/-- what is told of a base's making and of its __init__ -/
structure BsX (tl : List Value) (newId : String) : Prop where
  fn : ∃ (B initId : String) (bmB : List Value), ExcBaseFacts B newId initId bmB ∧ tl.contains (.type B) = true
  na : tl.contains (.type "AttributeError") = false
  nn : tl.contains (.type "NameError") = false
theorem bs_VE : BsX veTail "ValueError.__new__" := ⟨⟨_, _, _, F.excBase_ValueError, by decide +kernel⟩, by decide +kernel, by decide +kernel⟩
section
variable {M : Model} {prog : Program} {w : World} {A : Around} {E : Value → Shared → Prop} {R : Result → Shared → Prop} {h : Heap} {g : Array GenState} {d : Drawn} {t : Nat} {os : OsState}
variable {nm q : Str} {C N : Addr} {bs bm tl : List Value} {hdct : Bool} {sn : List Str} {sub : List Value} {ab : Bool} {col : Option Bool} {dd : Option Addr} {k0 k1 k2 k3 k5 : Option Value} {newId : String}
theorem new_x (Z : BsX tl newId) (hT : ∀ X : String, bm.contains (.type X) = tl.contains (.type X)) {rest : List Value} (hC : h.get? C = some (excClassObj nm q C N bs bm hdct sn sub ab col dd k0 k1 k2 k3 k5 newId)) (hrest : rest.length ≤ sizeLine)
    (hq : R (.ok (.ret (.ref (h.objs.size + 1)))) ⟨(h.push (kdv_tup rest)).push (excO C h.objs.size), g, d, t, os⟩) : codeAny (model prog w) A (.builtin newId ⟨.ref C :: rest, []⟩) R ⟨h, g, d, t, os⟩ := by
  obtain ⟨B, initId, bmB, F, zb⟩ := Z.fn
  have he := F.ends
  have cB : (Value.ref C :: bm).contains (.type B) = true := by rw [List.contains_cons, hT, zb, Bool.or_true]
  have cA : (Value.ref C :: bm).contains (.type "AttributeError") = false := by rw [List.contains_cons, hT, Z.na] <;> rfl
  have cN : (Value.ref C :: bm).contains (.type "NameError") = false := by rw [List.contains_cons, hT, Z.nn] <;> rfl
  refine codeAny_builtinAt F.entry ?_; unfold Builtin.«BaseException.__new__»
  refine wpAt_bind ?_; show wpAt _ _ _ (stack >>= _) _ _ _
  refine wpAt_bind (wpAt_stack fun p below => wpAt_of_wpAny ?_); wp_walk
  refine wpAt_of_wpAny ?_; rw [F.owner]
  repeat (first | with_reducible refine wpAny_madeHere_exc F.canon hC ?_ | with_reducible refine wpAny_loadPart_at hC ?_ | (with_reducible refine wpAny_isSubtype_exc hC ?_; (first | rw [cB] | rw [cA] | rw [cN])) | wp_step)
  show R _ _; rw [Heap.size_push]; exact hq
theorem check_new_x (Z : BsX tl newId) (hT : ∀ X : String, bm.contains (.type X) = tl.contains (.type X)) {rest : List Value} {Q : Unit → Shared → Prop} (hC : h.get? C = some (excClassObj nm q C N bs bm hdct sn sub ab col dd k0 k1 k2 k3 k5 newId)) (hq : Q () ⟨h, g, d, t, os⟩) :
    wpAny M A (checkBuiltinCall newId ⟨.ref C :: rest, []⟩) Q E ⟨h, g, d, t, os⟩ := by
  obtain ⟨B, initId, bmB, F, zb⟩ := Z.fn
  have cB : (Value.ref C :: bm).contains (.type B) = true := by rw [List.contains_cons, hT, zb, Bool.or_true]
  have hs := F.noStar
  simp only [checkBuiltinCall, F.newKind, F.newSplit, F.newRow]
  repeat (first | refine wpAny_loadPart_at hC ?_ | (refine wpAny_isSubtype_exc hC ?_; (rw [cB])) | refine wpAny_staticBase_exc hC ?_ | refine wpAny_madeBy_exc hC ?_ | simp only [bne_self_eq_false, Bool.false_eq_true, if_false] | wp_step)
  exact hq
theorem type_call_x (Z : BsX tl newId) (hT : ∀ X : String, bm.contains (.type X) = tl.contains (.type X)) {rest : List Value} {fI : Addr} {Q : Fin → Shared → Prop} (hC : h.get? C = some (excClassObj nm q C N bs bm hdct sn sub ab col dd k0 k1 k2 k3 k5 newId))
    (hi : W.Looks (model prog w) h (typeLookup (.ref C) "__init__") (some (.ref fI))) (hb : ∀ self, W.Looks (model prog w) h (bindSpecial (.ref fI) self) (.ref fI, [self])) (hrest : rest.length ≤ sizeLine)
    (hq : codeAny (model prog w) A (.call (.ref fI) ⟨.ref (h.objs.size + 1) :: rest, []⟩) (fun r s' => match r with | .ok (.ret v) => v = .none ∧ Q (.done (.ret (.ref (h.objs.size + 1)))) s' | .ok _ => False | .error e => E e s') ⟨(h.push (kdv_tup rest)).push (excO C h.objs.size), g, d, t, os⟩) :
    wpAny (model prog w) A (Builtin.«type.__call__» ⟨.ref C :: rest, []⟩) Q E ⟨h, g, d, t, os⟩ := by
  obtain ⟨B, initId, bmB, F, zb⟩ := Z.fn
  repeat (first | with_reducible refine wpAny_loadPart_at hC ?_ | with_reducible refine wpAny_madeBy_exc hC ?_ | wp_step)
  refine codeAny_call_builtin_code (Code.quiet_builtin _ F.quiet) (check_new_x Z hT hC (new_x Z hT hC hrest ?_))
  show wpAny _ _ _ _ _ _
  have k : ∀ b o, h.get? b = some o → ((h.push (kdv_tup rest)).push (excO C h.objs.size)).get? b = some o := fun b o e => Heap.get?_push_of_some _ (Heap.get?_push_of_some _ e)
  have hC1 := k _ _ hC
  have hget : ((h.push (kdv_tup rest)).push (excO C h.objs.size)).get? (h.objs.size + 1) = some (excO C h.objs.size) := by heap_get
  have cC : (Value.ref C :: bm).contains (.ref C) = true := by simp
  have i1 := hi.keeps k
  have b1 := (hb (.ref (h.objs.size + 1))).keeps k
  unfold isInstance
  repeat (first | with_reducible refine wpAny_loadPart_at hget ?_ | (with_reducible refine wpAny_isSubtype_exc hC1 ?_; (rw [cC])) | wp_step)
  show wpAny _ _ (typeLookup (.ref C) _) _ _ _; refine i1.at ?_
  refine wpAny_holding (wpAny_bind (b1.at ?_)); refine wpAny_bind (wpAny_call (codeAny_mono hq fun r s' z => ?_))
  rcases r with e | (v | _ | _ | _) <;> (first | (exact z) | (exact z.elim) | skip)
  obtain ⟨e1, z⟩ := z
  subst e1
  first
    | (exact wpAny_pure (wpAny_pure z))
    | (wp_walk; exact z)
theorem call_x (Z : BsX tl newId) (hT : ∀ X : String, bm.contains (.type X) = tl.contains (.type X)) {rest : List Value} {fI : Addr} (hC : h.get? C = some (excClassObj nm q C N bs bm hdct sn sub ab col dd k0 k1 k2 k3 k5 newId))
    (hi : W.Looks (model prog w) h (typeLookup (.ref C) "__init__") (some (.ref fI))) (hb : ∀ self, W.Looks (model prog w) h (bindSpecial (.ref fI) self) (.ref fI, [self])) (hrest : rest.length ≤ sizeLine)
    (hq : codeAny (model prog w) (A.under (.builtin "type.__call__" ⟨.ref C :: rest, []⟩)) (.call (.ref fI) ⟨.ref (h.objs.size + 1) :: rest, []⟩) (InitBack (h.objs.size + 1) R) ⟨(h.push (kdv_tup rest)).push (excO C h.objs.size), g, d, t, os⟩) :
    codeAny (model prog w) A (.call (.ref C) ⟨rest, []⟩) R ⟨h, g, d, t, os⟩ := by
  have f1 := tc_lookup; have f2 := tc_bind (.ref C)
  have hTy : (⟨h, g, d, t, os⟩ : Shared).TypeIs (.ref C) "type" := ⟨_, hC, rfl⟩
  refine codeAny_of_tree ?_; show wpAny _ _ (callAny (.ref C) _) _ _ _
  repeat (any_goals (first | assumption | with_reducible refine wpAny_loadPart_at hC ?_ | wp_step))
  refine ⟨rfl, codeAny_call_builtin_at (Code.quiet_builtin _ (by decide +kernel)) entry_typeCall (wpAny_check_type_call_sub hC (type_call_x Z hT hC hi hb hrest (codeAny_mono hq fun r s' z => ?_)))⟩
  rcases r with e | (v | _ | _ | _) <;> exact z
structure InX (tl : List Value) (B initId : String) : Prop where
  init : Slot B "__init__" initId
  entry : entryFor table initId = some Builtin.«BaseException.__init__»
  kind : builtinKind initId = some .slot
  split : splitId initId = some (B, "__init__")
  row : Manifest.signature? initId = some ⟨.positional, "*", B, .self, [⟨"args", .varPos, false⟩]⟩
  star : (B != "*") = true
  has : tl.contains (.type B) = true
theorem in_VE : InX veTail "ValueError" "ValueError.__init__" := ⟨F.excBase_ValueError.init, F.excBase_ValueError.initEntry, F.excBase_ValueError.initKind, F.excBase_ValueError.initSplit, F.excBase_ValueError.initRow, F.excBase_ValueError.noStar, by decide +kernel⟩
theorem check_init_x {B initId : String} (Z : InX tl B initId) (hT : ∀ X : String, bm.contains (.type X) = tl.contains (.type X)) {e : Addr} {oe : Obj} {rest : List Value} {Q : Unit → Shared → Prop}
    (hC : h.get? C = some (excClassObj nm q C N bs bm hdct sn sub ab col dd k0 k1 k2 k3 k5 newId)) (he : h.get? e = some oe) (hcls : oe.cls = .ref C) (hq : Q () ⟨h, g, d, t, os⟩) : wpAny M A (checkBuiltinCall initId ⟨.ref e :: rest, []⟩) Q E ⟨h, g, d, t, os⟩ := by
  have cB : (Value.ref C :: bm).contains (.type B) = true := by rw [List.contains_cons, hT, Z.has, Bool.or_true]
  have hs := Z.star
  simp only [checkBuiltinCall, Z.kind, Z.split, Z.row]
  repeat (first | (with_reducible refine wpAny_loadPart_at he ?_; (rw [hcls])) | with_reducible refine wpAny_loadPart_at hC ?_ | (with_reducible refine wpAny_isSubtype_exc hC ?_; (rw [cB])) | wp_step)
  refine wpAny_onRaise ?_
  have z : ∀ (a b : String) (n : Nat), Bind.check ⟨.positional, "*", B, .self, [⟨"args", .varPos, false⟩]⟩ a b n (List.map (fun x => x.fst) ({ pos := Value.ref e :: rest } : Args).kw) = pure () := fun a b n => check_star_args _ _ _ _ _ _
  rw [z]; exact wpAny_pure hq
theorem init_x {B initId : String} (Z : InX tl B initId) (hT : ∀ X : String, bm.contains (.type X) = tl.contains (.type X)) {e t0 : Addr} {rest : List Value} (hC : h.get? C = some (excClassObj nm q C N bs bm hdct sn sub ab col dd k0 k1 k2 k3 k5 newId))
    (he : h.get? e = some (excO C t0)) (hrest : rest.length ≤ sizeLine) (hq : ∀ h' t1, (∀ b o, b ≠ e → h.get? b = some o → h'.get? b = some o) → h'.get? e = some (excO C t1) → R (.ok (.ret .none)) ⟨h', g, d, t, os⟩) :
    codeAny (model prog w) A (.call (.builtin initId) ⟨.ref e :: rest, []⟩) R ⟨h, g, d, t, os⟩ := by
  refine codeAny_call_builtin Z.init.plain Z.entry (check_init_x Z hT hC he rfl ?_)
  wp_walk; refine hq _ h.objs.size (fun b o hb ho => ?_) ?_
  · rw [Heap.get?_update_other _ _ (Ne.symm hb)] <;> exact Heap.get?_push_of_some _ ho
  · rw [Heap.get?_update_self _ (Heap.get?_push_of_some _ he) rfl] <;> rfl
/-- self.f = v, the first one -/
theorem osa_x {K : W.Frag} {name : Str} {tk : Tok} {v : Value} {x : Addr} {fv : Array Value} {cd : ClassData} (T : TlOk tl) (X : K.In h) (hx : h.get? x = some { cls := .ref C, data := .fields fv }) (hcd : W.clsIn K C = some cd) (hm : refsT tl cd.mro = true) (ho : tl.contains (.type "object") = true)
    (hh : cd.hasDict = true) (ha : W.findIn K (.ref C) name = some none)
    (hq : ∀ h' tk' dx, (∀ b o, b ≠ x → h.get? b = some o → h'.get? b = some o) → h.objs.size ≤ dx → dx ≠ x → h'.get? x = some { cls := .ref C, dict := some dx, data := .fields fv } → h'.Ns1 dx (fun y => if y = name then some v else none) → R (.ok (.ret .none)) ⟨h', g, d, tk', os⟩) :
    codeAny (model prog w) A (.call (.builtin "object.__setattr__") ⟨[.ref x, .str name tk, v], []⟩) R ⟨h, g, d, t, os⟩ := by
  have I : W.InstAt h x { cls := .ref C, data := .fields fv } C none := ⟨hx, rfl, rfl, trivial⟩
  have S := F.store_object; have ne := refsT_ne T hm
  have hob : cd.mro.contains (.type "object") = true := (refsT_has T "object" _ hm).trans ho
  have hxs : x ≠ h.objs.size := Nat.ne_of_lt (Heap.lt_size hx)
  have sb : W.Looks (model prog w) h (isInstance (.ref x) (.type "object")) true := I.type.andThen (W.looks_mroIn X (by unfold W.mroIn; rw [hcd, Option.bind_some, if_neg (by rw [ne]; decide), hob]))
  refine codeAny_call_builtin S.slot.plain S.entry (@W.check_slot (model prog w) _ _ ⟨h, g, d, t, os⟩ "object.__setattr__" "object" "__setattr__" (.ref x) [.str name tk, v] [] _ S.kind S.split sb (S.args (.ref x) (.str name tk) v) ?_)
  have hmr : W.Looks (model prog w) h (mroOf (.ref C)) cd.mro := (W.looks_clsIn X hcd).andThen .now
  have l3 : W.Looks (model prog w) h (storeTaker? none) none := .now
  have hcl : W.Looks (model prog w) h (classData C) cd := W.looks_clsIn X hcd
  rw [W.osa_eq, refuse_eq] <;> refine wpAny_bind (wpAny_bind (I.type.at (wpAny_bind (hmr.at ?_))))
  rw [refsT_pass T _ _ hm]
  refine wpAny_pure (wpAny_bind (I.type.at (wpAny_bind ((W.looks_findIn X ha).at (wpAny_bind (l3.at ?_))))))
  show wpAny _ _ (storeInOwnDict (.ref x) (.ref C) (.str name tk) name v false) _ _ _
  obtain ⟨n1, n2, n3, n4, n5, n6, n7, n8, n9, n10, n11⟩ := cd
  simp only at hh
  subst hh
  unfold storeInOwnDict ownDictForStores
  repeat (first | with_reducible refine store_in_new ?_ ?_ | with_reducible refine wpAny_loadPart_at hx ?_ | with_reducible refine hcl.at ?_ | wp_step)
  · exact ⟨_, #[], _, (Heap.get?_update_ne _ _ _ _ hxs.symm).trans (Heap.get?_push_at rfl rfl), rfl, fun e he => absurd he (by simp), fun _ => rfl⟩
  · intro h' tk' hn' hs
    have hx1 : (h.push { cls := .type "dict", data := .dict #[] }).get? x = some { cls := .ref C, data := .fields fv } := Heap.get?_push_of_some _ hx
    refine hq h' tk' h.objs.size (fun b o hb ho => (hs.2 b (Nat.ne_of_lt (Heap.lt_size ho))).trans ((Heap.get?_update_ne _ _ _ _ hb).trans (Heap.get?_push_of_some _ ho))) (Nat.le_refl _) hxs.symm ((hs.2 x hxs).trans (Heap.get?_update_self _ hx1 rfl)) hn'
end
end DLX
end PySem
namespace DL
open PySem L2 PyProof.Rows
/-- what the text says of the class at C -/
structure XcC (K : Fg) (C : Addr) (tl : List Value) (newId : String) : Prop where
  cls : ∃ nm q N bs bm sn sub ab col dd k0 k1 k2 k3 k5, K.lookup C = some (excClassObj nm q C N bs bm true sn sub ab col dd k0 k1 k2 k3 k5 newId) ∧ DLX.refsT tl bm = true
  sa : PySem.W.findIn K (.ref C) "__setattr__" = some (some (.builtin "object.__setattr__"))
  exC : PySem.W.subIn K (.ref C) (.type "BaseException") = some true
  tyC : PySem.W.typeIn K (.ref C) = some (.type "type")
  kC : PySem.W.keepIn K (.ref C) = true
/-- a base, with its facts -/
structure XBase (tl : List Value) (newId B initId : String) : Prop where
  t : DLX.TlOk tl
  ob : tl.contains (.type "object") = true
  b : DLX.BsX tl newId
  i : DLX.InX tl B initId
  hd : PySem.W.handedIn (.builtin initId) = true
theorem xb_VE : XBase HandSPX.veTail "ValueError.__new__" "ValueError" "ValueError.__init__" := ⟨DLX.tl_VE, by decide +kernel, DLX.bs_VE, DLX.in_VE, by decide +kernel⟩
section
variable {X : Cx} {pins : List (Addr × Obj)} {σ : L2.St} {H : Hp} {s : Shared} {a C : Addr} {f : Str} {y : V} {u : Value} {A : Around} {E : Value → Shared → Prop} {tl : List Value} {newId B initId : String}
/-- self.f = y -/
theorem ost_x (Z : XBase tl newId B initId) (T : XcC X.K C tl newId) (I : Inv X pins σ H s) (e : H a = some (exo a C none)) (hno : PySem.W.findIn X.K (.ref C) f = some none) (ry : RelV y u) {Q : Unit → Shared → Prop}
    (h : ∀ dx s', H dx = none → dx ≠ a → Inv X pins σ (upd (upd H dx (exd dx [(f, y)])) a (exo a C (some dx))) s' → Q () s') : wpAny (model X.prog X.w) A (setAttr (.ref a) f u) Q E s := by
  obtain ⟨nm, q, N, bs, bm, sn, sub, ab, col, dd, k0, k1, k2, k3, k5, hC, hbm⟩ := T.cls
  have hcl : PySem.W.clsIn X.K C = some { name := nm, bases := bs, mro := .ref C :: bm, ns := N, qualname := q, hasDict := true, slotNames := sn, subclasses := sub, abstract := ab, collection := col, hasDel := false } := by unfold PySem.W.clsIn; rw [hC]
  obtain ⟨t1, ho⟩ := exo_at I.hok e; obtain ⟨hp, g, d, t, os⟩ := s
  refine PySem.W.set_plain I.kIn (ox := { cls := .ref C, dict := none, data := .fields #[.ref t1, .none, .none, .none, .bool false, .none] }) (od := none) ⟨ho, rfl, rfl, trivial⟩ T.sa (DLX.osa_x Z.t I.kIn ho hcl (show DLX.refsT tl (.ref C :: bm) = true from hbm) Z.ob rfl hno fun h' tk' dx k dn dne hx hn => ?_)
  have hnd : H dx = none := I.hok.fresh dn
  have nd : ∀ {b : Addr} {o : Obj}, hp.get? b = some o → b ≠ dx := fun {b o} q => Nat.ne_of_lt (Nat.lt_of_lt_of_le (Heap.lt_size q) dn)
  have na : ∀ {b : Addr}, H b = none → b ≠ a := fun {b} n z => by rw [z, e] at n; cases n
  have U : Un X.fs [] H (upd (upd H dx (exd dx [(f, y)])) a (exo a C (some dx))) hp h' := {
    keep := fun b o q n _ _ => k b o (na n) q
    slot := fun b o q n _ _ => ⟨o.slots, k b o (na n) q⟩
    free := fun b o q n _ => by (rw [upd_ne (na n), upd_ne (nd q)]; exact n)
    there := fun b o q _ => by
      by_cases hb : b = a
      · exact ⟨_, by (rw [hb]; exact hx)⟩
      · exact ⟨o, k b o hb q⟩
    tups := fun b xs q => by (rw [upd_ne (at_ne e q exo_tup), upd_ne (ne_of_none q hnd)]; exact q)
    frzs := fun b o v q => by (rw [upd_ne (at_ne e q exo_frz), upd_ne (ne_of_none q hnd)]; exact q)
    tbls := fun b ps q => ⟨#[], by (rw [upd_ne (at_ne e q exo_tbl), upd_ne (ne_of_none q hnd), q]; simp)⟩ }
  refine h dx _ hnd dne (I.un (t' := tk') U fun b o q => ?_)
  by_cases hb : b = a
  · subst hb
    rw [upd_same] at q; cases q
    exact exo_ok hx
  · rw [upd_ne hb] at q
    by_cases hd : b = dx
    · subst hd
      rw [upd_same] at q; cases q
      exact exd_ok hn (relO_put (fs := []) ry fun g => True.intro)
    · rw [upd_ne hd] at q
      refine (I.hok b o q).stay (fun c v hc z => k c v (fun w => ?_) z) (fun c hc => by (rw [upd_ne (at_ne e hc exo_own), upd_ne (ne_of_none hc hnd)]; exact hc)) (fun c xs hc => by (rw [upd_ne (at_ne e hc exo_tup), upd_ne (ne_of_none hc hnd)]; exact hc))
      rcases hc with hc | hc
      · exact hb (hc.symm.trans w)
      · exact at_ne e hc exo_own w
/-- B.__init__(self, ..): nothing of it is told -/
theorem oinit_x {us : List Value} {Q : Value → Shared → Prop} (Z : XBase tl newId B initId) (T : XcC X.K C tl newId) (I : Inv X pins σ H s) (e : H a = some (exo a C none)) (hl : us.length ≤ sizeLine) (h : ∀ s', Inv X pins σ H s' → Q .none s') :
    wpAny (model X.prog X.w) A (call (.builtin initId) (.ref a :: us)) Q E s := by
  obtain ⟨nm, q, N, bs, bm, sn, sub, ab, col, dd, k0, k1, k2, k3, k5, hC, hbm⟩ := T.cls
  obtain ⟨t1, ho⟩ := exo_at I.hok e; obtain ⟨hp, g, d, t, os⟩ := s
  refine wpAny_call (DLX.init_x Z.i (fun Y => DLX.refsT_has Z.t Y bm hbm) (I.kIn _ _ hC) ho hl fun h' t2 k hx => ?_)
  have J := I.write (t' := t) (x := a) (e := a) (o := exo a C none) (by (rw [e]; exact True.intro)) (.inl rfl) k ⟨_, hx⟩ (exo_ok hx)
  have eu : upd H a (exo a C none) = H := funext fun b => by
    by_cases hb : b = a
    · rw [hb, upd_same, e]
    · rw [upd_ne hb]
  rw [eu] at J; exact h _ J
end
/-- the base's name in the text: a builtin class, or an own one -/
def BaseAt (K : Fg) (mg : Str → Option Value) (x : Str) (initId : String) : Prop :=
  (mg x = none ∧ ∃ T : String, bootBuiltins x = some (.type T) ∧ x ≠ "__name__" ∧ typeOf (.type T) = pure (.type "type") ∧ Manifest.isStub T = false ∧ PySem.W.findCls K (.type T) (.type "type") "__init__" = some (.val (.builtin initId))) ∨
  ∃ R, mg x = some (.ref R) ∧ PySem.W.readsIn K R (.type "type") = true ∧ PySem.W.specialIn K (.ref R) "__getattribute__" = some (some (.builtin "type.__getattribute__")) ∧ PySem.W.findCls K (.ref R) (.type "type") "__init__" = some (.val (.builtin initId))
/-- B.__init__(self, ..) -/
def tXinit (K : Fg) (tl : List Value) (newId : String) (ta : TA) : TE := fun σ H Q => ta σ H fun vs H1 => ∃ (a C : Addr) (ws : List V), vs = .ref a :: ws ∧ ws.length ≤ 1000 ∧ XcC K C tl newId ∧ H1 a = some (exo a C none) ∧ Q .non H1
section
variable {X : Cx} {o e : Expr} {es : List Expr} {to te : TE} {ta : TA} {f x : Str} {p p' p1 p2 pos : Pos} {tl : List Value} {newId B initId : String}
theorem pe_xinit {pl : Sem Bool} (Z : XBase tl newId B initId) (hb : BaseAt X.K X.mg x initId) (hg : Gl X x) (ha : PA X (e :: es) ta) (hdb : (x == ("__debug__" : Str)) = false := by decide)
    (hc : eval (.Call (.Attribute (.Name x p1) "__init__" p2) (e :: es) [] pos) X.env = (do
      let ov ← eval (.Name x p1) X.env
      standAt p2.atName
      let (f, first) ← holding [ov] (getMethod ov "__init__" pl)
      callWith pos f first (backTo pos (starEach (e :: es) X.env)) (backToKw pos (keywordEach [] X.env))) := by rfl)
    (he : starEach (e :: es) X.env = (false, eval e X.env) :: starEach es X.env := by rfl) (hpl : (backTo pos (starEach es X.env)).any (·.1) = false := by rfl) :
    PE X (.Call (.Attribute (.Name x p1) "__init__" p2) (e :: es) [] pos) (tXinit X.K tl newId ta) := by
  refine ⟨fun pins s σ H Q I h => ?_⟩
  have go : ∀ {s0 : Shared}, Inv X pins σ H s0 → wpAny (model X.prog X.w) X.A (callWith pos (Value.builtin initId) [] (backTo pos (starEach (e :: es) X.env)) (backToKw pos (keywordEach [] X.env))) (EP X pins σ Q) X.xe s0 := by
    intro s0 I0
    refine PyProof.Rows.callWith_method1 (thn (ha.run pos pins _ σ H _ I0 h) fun us s1 ⟨vs, H1, I1, r1, a, C, ws, ev, hl, T, ea, q⟩ => ?_) he hpl
    subst ev
    cases r1 with
    | @cons _ u0 _ ur ra rw' =>
      have ra : u0 = Value.ref a := ra
      subst ra
      exact oinit_x Z T I1 ea (by rw [← Paired.length rw', sizeLine_eq]; omega) fun s' J => ⟨.non, H1, J, rfl, q⟩
  refine PySem.W.methodCall_KW ?_ hc
  rcases hb with ⟨hm, T, hv, hn, ht, hs, hf⟩ | ⟨R, hm, hr, hga, hf⟩
  · refine ld_blt I hg hm hv ?_ hn hdb
    obtain ⟨m, fr⟩ := I.fr
    exact PySem.W.method_type fr I.ok.mod.kin ht hs hf Z.hd (go (I.tok _))
  · refine ld_glob I hg hm ?_ hdb
    exact PySem.W.method_cls I.kIn hga (PySem.W.cls_value I.kIn hr hf Z.hd (go (I.tok _)))
/-- self.f = e, the first one -/
def tXst (K : Fg) (tl : List Value) (newId : String) (f : Str) (to te : TE) : TS := fun D σ H => te σ H fun y H1 => to σ H1 fun x H2 => ∃ a C : Addr, x = .ref a ∧ XcC K C tl newId ∧ PySem.W.findIn K (.ref C) f = some none ∧
  H2 a = some (exo a C none) ∧ ∀ dx, H2 dx = none → dx ≠ a → D.nx σ (upd (upd H2 dx (exd dx [(f, y)])) a (exo a C (some dx)))
theorem ps_xst (Z : XBase tl newId B initId) (ho : PE X o to) (he : PE X e te) (hs : swapsWith e (some (.Attribute o f p')) pos.line X.env = pure false := by rfl) : PS X (.Assign [.Attribute o f p'] e pos) (tXst X.K tl newId f to te) := by
  refine ⟨fun pins s σ H D I h => plainObj_wpAny_Assign_Attribute (thn (he.run pins s σ H _ I h) fun v s1 ⟨y, H1, I1, r1, q1⟩ => thn (ho.run pins s1 σ H1 _ I1 q1) fun u s2 ⟨x, H2, I2, r2, a, C, ex, T, hno, ea, q⟩ => ?_) hs⟩
  subst ex
  have r2 : u = Value.ref a := r2
  subst r2
  exact ost_x Z T I2 ea hno r1 fun dx s' n ne J => ⟨σ, _, J, q dx n ne⟩
end
end DL
namespace DL
open PySem L2 PyProof.Rows
def spXI (K : Fg) (tl : List Value) (newId : String) (f : Str) : Sp := fun vs H Q _ => ∃ a C y, vs = [.ref a, y] ∧ XcC K C tl newId ∧ PySem.W.findIn K (.ref C) f = some none ∧ H a = some (exo a C none) ∧ ∀ dx, H dx = none → dx ≠ a → Q .non (upd (upd H dx (exd dx [(f, y)])) a (exo a C (some dx)))
section
variable {P : Program} {w : World} {K : Fg} {mg : Str → Option Value} {base : Heap} {B f qual : Str} {params : Arguments} {body : List Stmt} {scope : Scope} {fI : Addr} {fd : FuncData} {tl : List Value} {newId Bn initId : String}
/-- what such a body does -/
def tXI (K : Fg) (tl : List Value) (newId : String) (f tx : Str) : TS := tSeq (tDrop (tXinit K tl newId (tCons (tVar 0) (tCons (tC (.str tx)) tNil)))) (tXst K tl newId f (tVar 0) (tVar 1))
theorem xinit_fn {tx : Str} (F : FunD K "__init__" qual params body scope [] [] fI fd) (S : FnScope ["self", f] ["self", f] scope)
    (hbody : ∀ (cdv : Value) (A : Around) (outer : List Env) (s : Shared) (H : Hp) (E : XK), PSs (cxOf CX0 P w K mg base ["self", f] qual scope fI cdv A outer s H E) body (tXI K tl newId f tx)) : FnOk P w K mg base CX0 1 fI fd ["self", f] (spXI K tl newId f) := by
  obtain ⟨oc, od, dV, kV, doc, pm, an, cdv, ct, osl, rfl, lk, hcd, _, _⟩ := F.ex
  refine fn_of lk hcd S (fun vs H Q E ⟨a, C, y, e, _⟩ => by rw [e]; rfl) fun A outer s H vs Q E hr hsp => ⟨_, hbody cdv A outer s H E, ?_⟩
  obtain ⟨a, C, y, rfl, T, hno, ha, hQ⟩ := hsp
  refine ⟨.ref a, rfl, a, C, [.str tx], rfl, by simp, T, ha, ?_⟩
  exact ⟨y, rfl, .ref a, rfl, a, C, rfl, T, hno, ha, fun dx n ne => hQ dx n ne⟩
end
/-- C(e) -/
def tMkX (C : Addr) (f : Str) (ta : TE) : L2.St → Hp → XK → Prop := fun σ H Q => ta σ H fun y H1 => ∀ d, H1 d = none → Q (.ref C) (some d) (upd H1 d (.xd [(f, y)]))
section
variable {X : Cx} {e : Expr} {te : TE} {f x : Str} {p pos : Pos} {tl : List Value} {newId Bn initId : String} {C fI : Addr} {fd : FuncData} {k : Nat}
theorem pmk_x (Z : XBase tl newId Bn initId) (T : XcC X.K C tl newId) (hno : PySem.W.findIn X.K (.ref C) f = some none) (iC : PySem.W.findIn X.K (.ref C) "__init__" = some (some (.ref fI))) (tI : PySem.W.typeIn X.K (.ref fI) = some (.type "function"))
    (F1 : FnOk X.prog X.w X.K X.mg X.base CX0 1 fI fd ["self", f] (spXI X.K tl newId f)) (hr : Rm 2 X.A) (hb : Binds X.K fd ["self", f] []) (hg : Gl X x) (hm : X.mg x = some (.ref C)) (ha : PE X e te)
    (hdb : (x == ("__debug__" : Str)) = false := by decide) (he : starEach [e] X.env = (false, eval e X.env) :: starEach [] X.env := by rfl) (hpl : (backTo pos (starEach [] X.env)).any (·.1) = false := by rfl) :
    PMk X (.Call (.Name x p) [e] [] pos) (tMkX C f te) := by
  intro pins s σ H Q I h
  obtain ⟨nm, q, N, bs, bm, sn, sub, ab, col, dd, k0, k1, k2, k3, k5, hC, hbm⟩ := T.cls
  refine wpAny_Call_Name_kw (ld_glob I hg hm ?_ hdb)
  have ha2 : PA X [e] (fun σ H Q => te σ H fun y H1 => Q [y] H1) := pa_cons ha pa_nil he
  let G : List V → Hp → Prop := fun vs H1 => match vs with
    | [y] => ∀ d, H1 d = none → Q (.ref C) (some d) (upd H1 d (.xd [(f, y)]))
    | _ => False
  have h0 : te σ H fun y H1 => G [y] H1 := h
  refine PySem.W.callWith_K (h₀ := X.base) I.ok.mod.kin T.kC (thn (ha2.run pos pins s σ H G I h0) fun us s1 ⟨vs, H1, I1, r1, q0⟩ => ⟨I1.kIn, ?_⟩) he hpl
  · obtain ⟨y, ev, q1⟩ : ∃ y, vs = [y] ∧ ∀ d, H1 d = none → Q (.ref C) (some d) (upd H1 d (.xd [(f, y)])) := by
      match vs, q0 with
      | [y], q0 => exact ⟨y, rfl, q0⟩
    subst ev
    show wpAny _ _ (call (.ref C) us) _ _ _
    obtain ⟨hp, g, dr, tk, os⟩ := s1
    have hsz : hp.objs.size ≤ hp.objs.size + 1 := Nat.le_succ _
    have hn : H1 (hp.objs.size + 1) = none := I1.hok.fresh hsz
    have kk : ∀ b o, hp.get? b = some o → ((hp.push (PySem.W.kdv_tup us)).push (PySem.HandSPX.excO C hp.objs.size)).get? b = some o := fun b o e => Heap.get?_push_of_some _ (Heap.get?_push_of_some _ e)
    have hget : ((hp.push (PySem.W.kdv_tup us)).push (PySem.HandSPX.excO C hp.objs.size)).get? (hp.objs.size + 1) = some (PySem.HandSPX.excO C hp.objs.size) := by heap_get
    have I2 : L2.Inv X pins σ (upd H1 (hp.objs.size + 1) (exo (hp.objs.size + 1) C none)) ⟨(hp.push (PySem.W.kdv_tup us)).push (PySem.HandSPX.excO C hp.objs.size), g, dr, tk, os⟩ :=
      I1.laid (t' := tk) (a := hp.objs.size + 1) (o := exo (hp.objs.size + 1) C none) (h' := (hp.push (PySem.W.kdv_tup us)).push (PySem.HandSPX.excO C hp.objs.size)) kk hsz (exo_ok hget)
    have r2 : Vals (V.ref (hp.objs.size + 1) :: [y]) (Value.ref (hp.objs.size + 1) :: us) := .cons rfl r1
    have hl : (Value.ref (hp.objs.size + 1) :: us).length = 2 := r2.length.symm
    have hus : us.length ≤ sizeLine := by
      have e := r1.length
      rw [← e, sizeLine_eq] <;> simp
    have hsp : spXI X.K tl newId f (V.ref (hp.objs.size + 1) :: [y]) (upd H1 (hp.objs.size + 1) (exo (hp.objs.size + 1) C none))
        (fun v H2 => v = .non ∧ ∃ (d : Addr), H2 (hp.objs.size + 1) = some (exo (hp.objs.size + 1) C (some d)) ∧ H2 d = some (exd d [(f, y)]) ∧ H1 d = none ∧ upd (del H2 (hp.objs.size + 1)) d (.xd [(f, y)]) = upd H1 d (.xd [(f, y)])) (fun _ _ _ => False) := by
      refine ⟨_, C, y, rfl, T, hno, upd_same, fun dx n ne => ⟨rfl, dx, upd_same, ?_, ?_, ?_⟩⟩
      · rw [upd_ne ne, upd_same]
      · rw [upd_ne ne] at n; exact n
      · funext b
        by_cases hb : b = dx
        · subst hb; rw [upd_same, upd_same]
        · rw [upd_ne hb, upd_ne hb]
          by_cases hb2 : b = hp.objs.size + 1
          · subst hb2; rw [del_same, hn]
          · rw [del_ne hb2, upd_ne hb2, upd_ne hb, upd_ne hb2]
    refine wpAny_call (DLX.call_x Z.b (fun Y => DLX.refsT_has Z.t Y bm hbm) (I1.kIn _ _ hC) (PySem.W.looks_findIn I1.kIn iC) (fun self => PySem.W.bind_fn I1.kIn self tI) hus
      (codeAny_mono (F1.run _ X.stack _ _ ⟨Value.ref (hp.objs.size + 1) :: us, []⟩ (Value.ref (hp.objs.size + 1) :: us) _ _ (fun _ _ _ => False) (((hr.make C us []).l2).mono (by decide)) (I2.env0.make C us []) (by have z := hb _ (Value.ref (hp.objs.size + 1) :: us) I2.kIn (by rw [List.append_nil]; exact hl); rw [List.append_nil] at z; exact z) r2 hsp) fun r s' hq' => ?_))
    cases r with
    | error er => exact False.elim hq'
    | ok fl =>
      cases fl with
      | ret u =>
        obtain ⟨v, H2, os2, bare2, un2, hok2, rv, ev, d, ea, ed, hd1, eH⟩ := hq'
        subst ev
        obtain ⟨h2, g2, d2, t2, os'⟩ := s'
        exact ⟨rv, mk_end (raises_own T.exC T.tyC) I1 hsz kk un2 hok2 os2 bare2 ea ed hd1 (by rw [eH]; exact q1 d hd1)⟩
      | next => exact False.elim hq'
      | brk => exact False.elim hq'
      | cont => exact False.elim hq'
end
end DL
namespace DL
open PySem L2 PyProof.Rows
section
variable {X : Cx}
theorem PA_nox {es : List Expr} {t : TA} (h : PA X.nox es t) : PA X es t := ⟨fun pos pins s σ H Q I hw =>
  wpAny_mono (h.run pos pins s σ H Q (I.wish _) hw) (fun _ _ ⟨v, H', I', r, q⟩ => ⟨v, H', I'.unwish, r, q⟩) fun _ _ z => False.elim z⟩
theorem PK_nox {es : List Keyword} {t : TA} (h : PK X.nox es t) : PK X es t := ⟨fun pos pins s σ H Q I hw =>
  wpAny_mono (h.run pos pins s σ H Q (I.wish _) hw) (fun _ _ ⟨v, H', I', r, q⟩ => ⟨v, H', I'.unwish, r, q⟩) fun _ _ z => False.elim z⟩
theorem PS_nox {st : Stmt} {t : TS} (h : PS X.nox st t) : PS X st t := ⟨fun pins s σ H D I hw =>
  wpAny_mono (h.run pins s σ H D (I.wish _) hw) (fun _ _ q => q.unwish) fun _ _ z => False.elim z⟩
end
/-- an error: its class, its dict -/
inductive XdOk (K : Fg) (F : Hp) : Str → List (Str × D) → Value → Option Addr → Prop
  | non {C : Str} : XdOk K F C [] (.ref (He.ga K C)) none
  | som {C : Str} {dx : Addr} {gs : List (Str × V)} {fs : List (Str × D)} : F dx = some (.xd gs) → fs.map (·.1) = gs.map (·.1) → RpA K F (gs.map (·.2)) (fs.map (·.2)) → XdOk K F C fs (.ref (He.ga K C)) (some dx)
abbrev PoX := Str → List (Str × D) → Rho → Prop
abbrev MX := Rho → PoX → Prop
def XW (K : Fg) (e : En) (F : Hp) (P : PoX) (W : WX) : Prop := ∀ C fs r' s' F' H' cls d, P C fs r' → Ok K e F' r' s' H' → Sub F F' → XdOk K F' C fs cls d → W cls d s' H'
theorem XW.mono {K : Fg} {e : En} {F G : Hp} {P : PoX} {W : WX} (h : XW K e F P W) (q : Sub F G) : XW K e G P W := fun C fs r' s' F' H' cls d a b c x => h C fs r' s' F' H' cls d a b (q.trans c) x
def TX (K : Fg) (e : En) (m : MX) (W : WX) : L2.St → Hp → Prop := fun s H => ∃ F r, Ok K e F r s H ∧ ∃ P : PoX, m r P ∧ XW K e F P W
/-- an expression, a statement, statements that raise -/
def EX (X : Cx) (a : Expr) (m : MX) : Prop := ∀ (e : En) (W : WX), Takes X W → PE X a fun s H _ => TX X.K e m W s H
def SX (X : Cx) (a : Stmt) (m : MX) : Prop := ∀ (e : En) (W : WX), Takes X W → PS X a fun _ s H => TX X.K e m W s H
def SsX (X : Cx) (a : List Stmt) (m : MX) : Prop := ∀ (e : En) (W : WX), Takes X W → PSs X a fun _ s H => TX X.K e m W s H
def xNo : MX := fun _ _ => False
def xOr (m n : MX) : MX := fun r P => m r P ∨ n r P
def xThen (m : MS) (n : MX) : MX := fun r P => m r ⟨fun r' => n r' P, fun _ _ => False, fun _ => False, fun _ => False⟩
def xIf (t : MT) (m n : MX) : MX := fun r P => t r fun b r1 => brK b (m r1 P) (n r1 P)
section
variable {X : Cx} {a c : Expr} {st : Stmt} {rest sa sb : List Stmt} {m n : MX} {ms : MS} {ta : MT} {pos : Pos} {x : Str} {pos' : Pos} {i : Nat}
theorem sx_expr (h : EX X a m) (hs : swapsWith a none pos.line X.env = pure false := by rfl) : SX X (.Expr a pos) m := fun e W tk => ps_expr (h e W tk) hs
theorem sx_ret (h : EX X a m) : SX X (.Return (some a) pos) m := fun e W tk => ps_ret (h e W tk)
theorem sx_set (hN : X.N.Nodup) (h : EX X a m) (hi : X.N[i]? = some x := by rfl) (hx : Loc X.env.scope x := by first | exact .inl rfl | exact .inr rfl) (hs : swapsWith a (some (.Name x pos')) pos.line X.env = pure false := by rfl)
    (hf : X.fn x = true ∨ X.env.scope.names.lookup x = some .local := by first | exact .inl rfl | exact .inr rfl | assumption) : SX X (.Assign [.Name x pos'] a pos) m := fun e W tk => ps_set hN hi hx (h e W tk) hs hf
theorem ssx_no : SsX X rest xNo := fun e W tk => ⟨fun pins s σ H D I ⟨F, r, k, P, hm, _⟩ => hm.elim⟩
theorem ssx_or (h1 : SsX X sa m) (h2 : SsX X sa n) : SsX X sa (xOr m n) := fun e W tk => ⟨fun pins s σ H D I ⟨F, r, k, P, hm, hP⟩ => hm.elim (fun z => (h1 e W tk).run pins s σ H D I ⟨F, r, k, P, z, hP⟩) fun z => (h2 e W tk).run pins s σ H D I ⟨F, r, k, P, z, hP⟩⟩
theorem ssx_here (h : SX X st m) : SsX X (st :: rest) m := fun e W tk => ⟨fun pins s σ H D I hx => by
  have z : PSs X (st :: rest) (tSeq (fun _ s H => TX X.K e m W s H) fun _ _ _ => False) := pss_cons (h e W tk) ⟨fun _ _ _ _ _ _ z => z.elim⟩
  exact z.run pins s σ H D I hx⟩
theorem ssx_then (h1 : DS X.nox st ms) (h2 : SsX X rest m) : SsX X (st :: rest) (xThen ms m) := fun e W tk => ⟨fun pins s σ H D I ⟨F, r, k, P, hm, hP⟩ => by
  have z : PSs X (st :: rest) (tSeq (TSt X.K e ms) fun _ s H => TX X.K e m W s H) := pss_cons (PS_nox (h1 e)) (h2 e W tk)
  exact z.run pins s σ H D I ⟨F, r, k, _, hm, ⟨fun r' s' F' H' hn k' q => ⟨F', r', k', P, hn, hP.mono q⟩, fun _ _ _ _ _ _ z => z.elim, fun _ _ _ _ z => z.elim, fun _ _ _ _ z => z.elim⟩⟩⟩
theorem sx_if (hc : DT X.nox c ta) (ha : SsX X sa m) (hb : SsX X sb n) : SX X (.If c sa sb pos) (xIf ta m n) := fun e W tk => ⟨fun pins s σ H D I ⟨F, r, k, P, hm, hP⟩ =>
  (ps_if (PT.nox (hc e)) (ha e W tk) (hb e W tk)).run pins s σ H D I ⟨F, r, k, _, hm, fun b r1 F1 H1 hp k1 q => by
    cases b with
    | true => rw [if_pos rfl]; exact ⟨F1, r1, k1, P, hp, hP.mono q⟩
    | false => rw [if_neg Bool.false_ne_true]; exact ⟨F1, r1, k1, P, hp, hP.mono q⟩⟩⟩
end
abbrev CtX := List Ar → (Str → List (Str × D) → Prop) → Prop
def spX (K : Fg) (n : Nat) (c : CtX) : List V → Hp → XK → Prop := fun vs H E => ∃ F as, vs.length = n ∧ Sub F H ∧ ArsOk K F H as vs ∧ Apart as vs ∧ ∃ P, c as P ∧ ∀ C fs cls d F' H', P C fs → Did K F H as vs F' H' as → XdOk K F' C fs cls d → E cls d H'
structure FnX (P : Program) (w : World) (K : Fg) (mg : Str → Option Value) (base : Heap) (k : Nat) (f : Addr) (fd : FuncData) (ps : List Str) (c : CtX) : Prop where
  run : ∀ (A : Around) (outer : List Env) (s : Shared) (H : Hp) (args : Args) (us : List Value) (vs : List V) (E : XK), Rm k A → A.guards = some [] → Env0 P w K mg base A outer s H → BindsTo s fd args (ps.zip us) → Vals vs us → spX K ps.length c vs H E →
    codeAny (model P w) A (.call (.ref f) args) (CR (L2.CX P w) outer P w H s (fun _ _ => False) E) s
theorem FnX.mono {P : Program} {w : World} {K : Fg} {mg : Str → Option Value} {base : Heap} {j k : Nat} {f : Addr} {fd : FuncData} {ps : List Str} {c : CtX} (F : FnX P w K mg base j f fd ps c) (h : j ≤ k) : FnX P w K mg base k f fd ps c :=
  ⟨fun A outer s H args us vs E hr => F.run A outer s H args us vs E (hr.mono h)⟩
theorem FnX.imp {P : Program} {w : World} {K : Fg} {mg : Str → Option Value} {base : Heap} {k : Nat} {f : Addr} {fd : FuncData} {ps : List Str} {c c' : CtX} (F : FnX P w K mg base k f fd ps c) (h : ∀ as P, c' as P → c as P) : FnX P w K mg base k f fd ps c' :=
  ⟨fun A outer s H args us vs E hr hg he hb hv ⟨G, as, h1, h2, h3, h4, P, h5, h6⟩ => F.run A outer s H args us vs E hr hg he hb hv ⟨G, as, h1, h2, h3, h4, P, h _ _ h5, h6⟩⟩
/-- what a body raises, as a contract; the arguments are data -/
def ctX (n : Nat) (m : MX) : CtX := fun as P => rqB (Nat.ble as.length n) <| strict (startR n as) fun r => m r fun C fs r' => onO (endArs 0 as r') fun as' => as' = as ∧ P C fs
section
variable {P : Program} {w : World} {K : Fg} {mg : Str → Option Value} {base : Heap} {x qual : Str} {params : Arguments} {body : List Stmt} {scope : Scope} {dvs : List V} {kws : List (Str × V)} {f : Addr} {fd : FuncData}
theorem fnx_def {N ps : List Str} {k : Nat} {m : MX} (F : FunD K x qual params body scope dvs kws f fd) (S : FnScope N ps scope)
    (hbody : ∀ (cdv : Value) (A : Around) (outer : List Env) (s : Shared) (H : Hp) (E : XK), Rm k (A.deeper (envOfC qual scope s.heap.objs.size f cdv)) → A.guards = some [] → SsX (cxOf (L2.CX P w) P w K mg base N qual scope f cdv A outer s H E) body m) : FnX P w K mg base (k + 1) f fd ps (ctX N.length m) := by
  obtain ⟨oc, od, dV, kV, doc, pm, an, cdv, ct, osl, rfl, lk, hcd, _, _⟩ := F.ex
  refine ⟨fun A outer s H args us vs E hr hgu e0 hb r ⟨F, as, hl, hs, ha, hap, Pp, hc, hP⟩ => ?_⟩
  have KX : K.In s.heap := e0.mod.kin.keeps fun b o e => (e0.bs b o e).1
  have lim : s.heap.NoLimit := e0.mod.nolimit.keeps fun b o e => (e0.bs b o e).1
  have hkind : ∀ y ∈ ps.zip us, scope.names.lookup y.1 = some .local ∨ (scope.names.lookup y.1 = some .cell ∧ ((cellsFrom (s.heap.objs.size + 1) scope.names []).lookup y.1).isSome = true) := by
    intro y hy
    obtain ⟨n, v⟩ := y
    rcases S.par n (List.of_mem_zip hy).1 with q | q
    · exact .inl q
    · exact .inr ⟨q, PySem.W.cellsFrom_some _ _ _ (.inl q)⟩
  refine codeAny_call_function hr.depth (KX _ _ lk) rfl S.co S.gen rfl (PySem.W.codeRec_of KX hcd) (hb _ _ _ _ (wpAny_newFunctionEnv_cells S.kind hkind ?_))
  rintro env rfl s1 x
  refine ⟨lim.keeps x.toInCall.keep, codeAny_func ?_⟩
  have I : L2.Inv (cxOf (L2.CX P w) P w K mg base N qual scope f cdv A outer s H E) [] (L2.start N vs) H s1 := inv_start S hr.hd e0 hl r x
  obtain ⟨hn, hc⟩ := rqB.ex hc
  have ok : Ok K (enOf F H as vs) F (startR N.length as) (L2.start N vs) H := Ok.start (Nat.le_of_ble_eq_true hn) hs ha hap
  have tk : Takes (cxOf (L2.CX P w) P w K mg base N qual scope f cdv A outer s H E) (fun cls d _ H => E cls d H) := takes_of rfl rfl rfl rfl
  have run := (hbody cdv A outer s H E (hr.deeper _) hgu (enOf F H as vs) _ tk).run [] s1 (L2.start N vs) H ⟨fun _ _ => False, fun _ _ => False, fun _ _ => False, fun _ _ => False⟩ I ⟨F, _, ok, _, hc.ex, fun C fs r' s' F' H' cls d hx k' q' t => by
    obtain ⟨as', ea, e1, hp⟩ := onO.ex hx
    subst e1
    exact hP C fs cls d F' H' hp (k'.did hs ha ea) t⟩
  refine wpAny_mono run (fun fl s' z => ?_) fun _ _ z => z
  cases fl with
  | ret u => obtain ⟨v, σ', H', J, rv, q⟩ := z; exact q.elim
  | next => obtain ⟨σ', H', J, q⟩ := z; exact q.elim
  | brk => obtain ⟨_, _, _, q⟩ := z; exact q.elim
  | cont => obtain ⟨_, _, _, q⟩ := z; exact q.elim
end
end DL
namespace DL
open PySem L2 PyProof.Rows
structure ClX (c : CtX) (as : List Ar) (K : Str → List (Str × D) → Prop) : Prop where
  h : c as K
def mFnX (c : CtX) (G : List R → List R → List R) (n m : Nat) (ms mk : MA) : MX := fun r P => ms r fun xs r1 => mk r1 fun zs r2 => rqB (decide (xs.length = n) && decide (zs.length = m)) (rqB (once (borSlots (G xs zs))) (onO (arsOf r2 (G xs zs)) fun as => ClX c as fun C fs => P C fs r2))
theorem backArs_self : ∀ {xs : List R} {as : List Ar} {r : Rho}, arsOf r xs = some as → backArs r xs as = some r
  | [], as, r, h => by cases h; rfl
  | x :: xs, as, r, h => by
    simp only [arsOf] at h
    split at h
    · rename_i a as' e1 e2
      cases h
      have ih := backArs_self e2
      cases x with
      | val d => exact ih
      | own m => exact ih
      | ob o => exact ih
      | adr n b => exact ih
      | bor i =>
        simp only [arOf] at e1
        split at e1
        · rename_i b m z
          cases e1
          have hi := (List.getElem?_eq_some_iff.mp z).1
          have e : r.set i (some (.box b m)) = r := by
            refine List.ext_getElem? fun j => ?_
            by_cases q : i = j
            · subst q; rw [List.getElem?_set_self hi, z]
            · rw [List.getElem?_set_ne q]
          simp only [backArs, z, e]
          exact ih
        · cases e1
    · cases h
section
variable {X : Cx} {a : Expr} {es : List Expr} {ma : ME} {ms mk : MA} {kws : List Keyword} {k n : Nat} {f : Addr} {fd : FuncData} {ps ks : List Str} {c : CtX} {x : Str} {p pos : Pos} {G : List R → List R → List R}
theorem run_fnx {pins : List (Addr × Obj)} {σ : L2.St} {H : Hp} {s : Shared} {Q : VK} {us ws : List Value} {vs zs : List V} {g : List Value → List Value → List Value} {gV : List V → List V → List V} {E : XK} {W : WX} (tk : Takes X W) (F : FnX X.prog X.w X.K X.mg X.base k f fd ps c) (hr : Rm k X.A) (hgu : X.A.guards = some [])
    (hb : KBn X.K fd ps n ks g gV) (I : L2.Inv X pins σ H s) (r : Vals vs us) (rz : Vals zs ws) (l1 : vs.length = n) (l2 : zs.length = ks.length) (h : spX X.K ps.length c (gV vs zs) H E) (hW : ∀ cls d H', E cls d H' → W cls d σ H') : wpAny (model X.prog X.w) X.A (call (.ref f) us (ks.zip ws)) (EP X pins σ Q) X.xe s := by
  refine wpAny_call (codeAny_mono (F.run X.A X.stack s H ⟨us, ks.zip ws⟩ (g us ws) (gV vs zs) E hr hgu I.env0 (hb.to s us ws I.kIn (r.length.symm.trans l1) (rz.length.symm.trans l2)) (hb.rel r rz) h) fun y s' hq => ?_)
  cases y with
  | error e => exact tk _ _ (XE.of_call I hW hq)
  | ok fl =>
    cases fl with
    | ret u =>
      obtain ⟨v, H', _, _, _, _, _, q⟩ := hq
      exact q.elim
    | next => exact False.elim hq
    | brk => exact False.elim hq
    | cont => exact False.elim hq
/-- what is left to do at the call -/
def XLeft (K : Fg) (ps ks : List Str) (n : Nat) (c : CtX) (gV : List V → List V → List V) (W : WX) (s : L2.St) (vs zs : List V) (H2 : Hp) : Prop := vs.length = n ∧ zs.length = ks.length ∧ spX K ps.length c (gV vs zs) H2 fun cls d H' => W cls d s H'
theorem fnx_read {e : En} {W : WX} {gV : List V → List V → List V} (hl : ∀ vs zs, vs.length = n → zs.length = ks.length → (gV vs zs).length = ps.length) (hG : ∀ (F : Hp) (s : L2.St) xs vs zs ws, RTs X.K F s xs vs → RTs X.K F s zs ws → vs.length = n → ws.length = ks.length → RTs X.K F s (G xs zs) (gV vs ws))
    {s : L2.St} {H : Hp} (h : TX X.K e (mFnX c G n ks.length ms mk) W s H) : (TAl X.K e ms) s H fun vs H1 => (TAl X.K e mk) s H1 fun zs H2 => XLeft X.K ps ks n c gV W s vs zs H2 := by
  obtain ⟨F, r, k, P, hm, hP⟩ := h
  refine ⟨F, r, k, _, hm, fun xs r1 vs F1 H1 hx k1 q1 t1 => ⟨F1, r1, k1, _, hx, fun zs r2 ws F2 H2 hz k2 q2 t2 => ?_⟩⟩
  obtain ⟨nn, hz2⟩ := rqB.ex hz
  rw [Bool.and_eq_true, decide_eq_true_eq, decide_eq_true_eq] at nn
  obtain ⟨n1, n2⟩ := nn
  obtain ⟨ho, hz3⟩ := rqB.ex hz2
  obtain ⟨as, ea, hz4⟩ := onO.ex hz3
  have hc := hz4.h
  have l1 : vs.length = n := t1.length.symm.trans n1
  have l2 : ws.length = ks.length := t2.length.symm.trans n2
  have t := hG F2 s xs vs zs ws (t1.mono q2) t2 l1 l2
  obtain ⟨ha, hb⟩ := t.ars k2 ea
  refine ⟨l1, l2, F2, as, hl _ _ l1 l2, k2.sub, ha, ?_, _, hc, fun C fs cls d F' H' hx did re => hP C fs r2 s F' H' cls d hx (call_ok t k2 ho ea did (backArs_self ea)) ((q1.trans q2).trans did.sub) re⟩
  refine ⟨fun i p m _ _ ⟨i2, G, e5, _⟩ => arsOf_nogh ea i2 G e5, ?_⟩
  intro i j p m m' e1 e2 e3 e4
  obtain ⟨i1, b1, g1, g2⟩ := hb i m e1
  obtain ⟨i2, b2, g3, g4⟩ := hb j m' e2
  obtain ⟨v1, u1, u2⟩ := t.get g1
  obtain ⟨v2, u3, u4⟩ := t.get g3
  rw [e3] at u1; cases u1
  rw [e4] at u3; cases u3
  cases u2 with | bor u2 =>
  cases u4 with | bor u4 =>
  have := k2.sep i1 i2 p _ _ _ _ g2 g4 u2 u4
  subst this
  exact once_apart ho g1 g3
theorem ex_fn (F : FnX X.prog X.w X.K X.mg X.base k f fd ps c) (hr : Rm k X.A) (hgu : X.A.guards = some []) (hg : Gl X x) (hm : X.mg x = some (.ref f)) (hk : PySem.W.keepIn X.K (.ref f) = true) (hb : Bd X.K fd ps n [] G)
    (ha : DA X.nox (a :: es) ms) (hdb : (x == ("__debug__" : Str)) = false := by decide) (he : starEach (a :: es) X.env = (false, eval a X.env) :: starEach es X.env := by rfl) (hpl : (backTo pos (starEach es X.env)).any (·.1) = false := by rfl) :
    EX X (.Call (.Name x p) (a :: es) [] pos) (mFnX c G n 0 ms aNil) := fun e W tk => by
  obtain ⟨g, gV, hB, hl, hG⟩ := hb.ex
  refine ⟨fun pins s σ H Q I h => wpAny_Call_Name_kw (ld_glob I hg hm (PySem.W.callWith_K (h₀ := X.base) I.ok.mod.kin hk (thn ((PA_nox (ha e)).run pos pins s σ H _ I (fnx_read (ks := []) hl hG h)) ?_) he hpl) hdb)⟩
  rintro us s1 ⟨vs, H1, I1, r, q⟩
  obtain ⟨F1, r1, k1, P1, hm1, h1⟩ := q
  obtain ⟨l1, l2, q2⟩ := h1 _ r1 [] F1 H1 hm1 k1 (Sub.refl _) .nil
  exact ⟨I1.kIn, run_fnx tk F hr hgu hB I1 r .nil l1 rfl q2 fun _ _ _ z => z⟩
theorem ex_fnK0 (F : FnX X.prog X.w X.K X.mg X.base k f fd ps c) (hr : Rm k X.A) (hgu : X.A.guards = some []) (hg : Gl X x) (hm : X.mg x = some (.ref f)) (hk : PySem.W.keepIn X.K (.ref f) = true) (hb : Bd X.K fd ps 0 ks G)
    (hkw : TAk X.nox kws mk) (hall : (backToKw pos (keywordEach kws X.env)).all (·.1.isSome) = true := by rfl) (hks : (backToKw pos (keywordEach kws X.env)).filterMap (·.1) = ks := by rfl)
    (hdb : (x == ("__debug__" : Str)) = false := by decide)
    (hpl : ((backTo pos (starEach [] X.env)).any (·.1) || (backToKw pos (keywordEach kws X.env)).any (·.1.isNone)) = false := by rfl) : EX X (.Call (.Name x p) [] kws pos) (mFnX c G 0 ks.length aNil mk) := fun e W tk => by
  obtain ⟨g, gV, hB, hl, hG⟩ := hb.ex
  refine ⟨fun pins s σ H Q I h => wpAny_Call_Name_kw (ld_glob I hg hm (PySem.W.callWith_KW0 (h₀ := X.base) I.ok.mod.kin hk hall ?_ hpl) hdb)⟩
  obtain ⟨F0, r0, k0, P0, hm0, h0⟩ := fnx_read hl hG h
  refine thn ((PK_nox (hkw e)).run pos pins s σ H _ I (h0 _ r0 [] F0 H hm0 k0 (Sub.refl _) .nil)) ?_
  rintro ws s2 ⟨zs, H2, I2, rz, l1, l2, q2⟩
  refine ⟨I2.kIn, ?_⟩
  rw [hks]
  exact run_fnx (us := []) tk F hr hgu hB I2 .nil rz l1 l2 q2 fun _ _ _ z => z
end
/-- the module's name x is a def that raises as the contract c tells -/
structure DefX (P : Program) (w : World) (K : Fg) (mg : Str → Option Value) (base : Heap) (k : Nat) (x : Str) (n : Nat) (ks : List Str) (G : List R → List R → List R) (c : CtX) : Prop where
  ex : ∃ f fd ps, mg x = some (.ref f) ∧ PySem.W.keepIn K (.ref f) = true ∧ FnX P w K mg base k f fd ps c ∧ Bd K fd ps n ks G
theorem DefX.of {P : Program} {w : World} {K : Fg} {mg : Str → Option Value} {base : Heap} {k n : Nat} {x : Str} {ks ps : List Str} {G : List R → List R → List R} {c : CtX} {f : Addr} {fd : FuncData} (hm : mg x = some (.ref f)) (hk : PySem.W.keepIn K (.ref f) = true) (F : FnX P w K mg base k f fd ps c) (hb : Bd K fd ps n ks G) : DefX P w K mg base k x n ks G c := ⟨⟨f, fd, ps, hm, hk, F, hb⟩⟩
section
variable {X : Cx} {a : Expr} {es : List Expr} {ms mk : MA} {kws : List Keyword} {k n : Nat} {ks : List Str} {c : CtX} {x : Str} {p pos : Pos} {G : List R → List R → List R}
theorem ex_def (h : DefX X.prog X.w X.K X.mg X.base k x n [] G c) (hr : Rm k X.A) (hgu : X.A.guards = some []) (hg : Gl X x)
    (ha : DA X.nox (a :: es) ms) (hdb : (x == ("__debug__" : Str)) = false := by decide) (he : starEach (a :: es) X.env = (false, eval a X.env) :: starEach es X.env := by rfl) (hpl : (backTo pos (starEach es X.env)).any (·.1) = false := by rfl) :
    EX X (.Call (.Name x p) (a :: es) [] pos) (mFnX c G n 0 ms aNil) := by
  obtain ⟨f, fd, ps, h1, h2, h3, h4⟩ := h.ex
  exact ex_fn h3 hr hgu hg h1 h2 h4 ha hdb he hpl
theorem ex_defK0 (h : DefX X.prog X.w X.K X.mg X.base k x 0 ks G c) (hr : Rm k X.A) (hgu : X.A.guards = some []) (hg : Gl X x)
    (hkw : TAk X.nox kws mk) (hall : (backToKw pos (keywordEach kws X.env)).all (·.1.isSome) = true := by rfl) (hks : (backToKw pos (keywordEach kws X.env)).filterMap (·.1) = ks := by rfl)
    (hdb : (x == ("__debug__" : Str)) = false := by decide)
    (hpl : ((backTo pos (starEach [] X.env)).any (·.1) || (backToKw pos (keywordEach kws X.env)).any (·.1.isNone)) = false := by rfl) : EX X (.Call (.Name x p) [] kws pos) (mFnX c G 0 ks.length aNil mk) := by
  obtain ⟨f, fd, ps, h1, h2, h3, h4⟩ := h.ex
  exact ex_fnK0 h3 hr hgu hg h1 h2 h4 hkw hall hks hdb hpl
end
/-- the class x of the text: its own __init__ keeps f -/
structure XMk1 (P : Program) (w : World) (K : Fg) (mg : Str → Option Value) (base : Heap) (x f : Str) : Prop where
  ex : ∃ (tl : List Value) (newId Bn initId : String) (fI : Addr) (fd : FuncData), mg x = some (.ref (He.ga K x)) ∧ XBase tl newId Bn initId ∧ XcC K (He.ga K x) tl newId ∧ PySem.W.findIn K (.ref (He.ga K x)) f = some none ∧
    PySem.W.findIn K (.ref (He.ga K x)) "__init__" = some (some (.ref fI)) ∧ PySem.W.typeIn K (.ref fI) = some (.type "function") ∧ FnOk P w K mg base CX0 1 fI fd ["self", f] (spXI K tl newId f) ∧ Binds K fd ["self", f] []
def xRaise1 (x f : Str) (ma : ME) : MX := fun r P => ma r fun y r1 => onP (hold r1 y.tmp) fun qa qb => strict qb fun r2 => P x [(f, qa)] r2
section
variable {X : Cx} {a : Expr} {ma : ME} {x f : Str} {p p2 pos pos' : Pos} {tx : Str} {j k : Nat}
theorem sx_raise1 (hc : X.calm = true) (M : XMk1 X.prog X.w X.K X.mg X.base x f) (hr : Rm k X.A) (h1 : 2 ≤ k) (hg : Gl X x) (ha : DE X.nox a ma)
    (hdb : (x == ("__debug__" : Str)) = false := by decide) (he : starEach [a] X.env = (false, eval a X.env) :: starEach [] X.env := by rfl) (hpl : (backTo pos (starEach [] X.env)).any (·.1) = false := by rfl) :
    SX X (.Raise (some (.Call (.Name x p) [a] [] pos)) none pos') (xRaise1 x f ma) := fun e W tk => by
  obtain ⟨tl, newId, Bn, initId, fI, fd, m1, m2, m3, m4, m5, m6, m7, m8⟩ := M.ex
  refine PS.imp (ps_raise hc tk (pmk_x m2 m3 m4 m5 m6 m7 (hr.mono h1) m8 hg m1 (PE.nox (ha.tmp e)) hdb he hpl)) fun D s H ⟨F, r, k, P, hm, hP⟩ => ?_
  refine ⟨F, r, k, fun y r1 => onP (hold r1 y) fun qa qb => strict qb fun r2 => P x [(f, qa)] r2, hm, fun y r1 v F1 H1 hx k1 q1 t1 d nd => ?_⟩
  obtain ⟨qa, qb, e1, hp⟩ := onP.ex hx
  obtain ⟨F2, k2, q2, rp⟩ := t1.hold k1 e1
  have fr := k2.free nd
  refine hP x [(f, qa)] qb s _ _ _ _ hp.ex (k2.lay nd) ((q1.trans q2).trans (Sub.new fr.1)) (.som (gs := [(f, v)]) upd_same rfl (.cons (rp.mono (Sub.new fr.1)) .nil))
end
end DL
namespace DL
open PySem L2 PyProof.Rows
abbrev clsV (K : Fg) (xs : List Str) : List Value := xs.map fun x => .ref (He.ga K x)
/-- what the clause's test asks -/
def TestX (X : Cx) (te : Expr) (cs : List Value) : Prop := ∀ (a : Addr) (pn pins : List (Addr × Obj)) (σ : L2.St) (H : Hp) (s : Shared) (Q : Value → Shared → Prop) (E : Value → Shared → Prop), L2.Inv (X.suite a pn) pins σ H s →
  (∀ cv s', L2.Inv (X.suite a pn) pins σ H s' → (∀ b o, s.heap.get? b = some o → s'.heap.get? b = some o) → s'.os = s.os → AllBare s'.gens →
    (∀ (cls : Value) (e : Addr) (b : Bool), PySem.W.Looks (model X.prog X.w) s'.heap (typeOf (.ref e)) cls → PySem.W.exmAny X.K cls cs = some b → PySem.W.Looks (model X.prog X.w) s'.heap (excMatches (.ref e) cv) b) → Q cv s') →
  wpAny (model X.prog X.w) (X.A.mark (some (.ref a))) (eval te X.env) Q E s
theorem test_one {X : Cx} {x : Str} {p : Pos} (hg : Gl X x) (hm : X.mg x = some (.ref (He.ga X.K x))) (hd : (x == ("__debug__" : Str)) = false := by decide) : TestX X (.Name x p) [.ref (He.ga X.K x)] := fun a pn pins σ H s Q E I h =>
  ld_glob (X := X.suite a pn) I hg hm (h _ s I (fun _ _ z => z) rfl I.bare fun cls e b LT hx => by
    obtain ⟨b1, d1, x1, y1, z1⟩ := PySem.W.exmAny_cons hx
    have y1 : some false = some d1 := y1
    cases y1
    rw [Bool.or_false] at z1
    subst z1
    exact PySem.W.exm_one I.kIn LT x1) hd
/-- a tracked thing more: an object that was not tracked, and is no frame, no cell, no pin -/
theorem Inv.track {X : Cx} {pins : List (Addr × Obj)} {σ : L2.St} {H : Hp} {s : Shared} {a : Addr} {o : HO} (I : L2.Inv X pins σ H s) (ha : H a = none) (ok : ∀ H', ObjOk X.prog X.w H' s.heap a o) (hnew : ∀ ob, X.s_0.heap.get? a = some ob → X.H_0 a = none → a ∉ X.ex → False)
    (nL : a ≠ X.env.locals) (nC : ∀ x c, X.env.cells.lookup x = some c → c ≠ a) (nP : ∀ p ∈ X.pn ++ pins, p.1 ≠ a) : L2.Inv X pins σ (upd H a o) s :=
  ⟨I.ok, I.os, I.bare, ⟨fun b ob e n hb hx => I.base.keep b ob e n hb hx, fun b ob e n hb hx => I.base.slot b ob e n hb hx, fun b ob e n hx => by
      rw [upd_ne (fun z => by subst z; exact hnew ob e n hx)]; exact I.base.free b ob e n hx, I.base.there, fun b xs e => by
      have z := I.base.tups b xs e
      rw [upd_ne (ne_of_none z ha)]; exact z, fun b ob u e => by
      have z := I.base.frzs b ob u e
      rw [upd_ne (ne_of_none z ha)]; exact z, fun b ps e => by
      obtain ⟨m, z⟩ := I.base.tbls b ps e
      exact ⟨m, by rw [upd_ne (ne_of_none z ha)]; exact z⟩⟩, I.loc, I.cell, by rw [upd_ne (Ne.symm nL)]; exact I.free, fun x c e => by rw [upd_ne (nC x c e)]; exact I.freeC x c e, fun p hp => by
    obtain ⟨h1, h2, h3, h4, h5⟩ := I.pin p hp
    exact ⟨h1, by rw [upd_ne (nP p hp)]; exact h2, h3, h4, h5⟩, fun b u e => by
    by_cases z : b = a
    · subst z; rw [upd_same] at e; cases e; exact ok _
    · rw [upd_ne z] at e
      exact (I.hok b u e).stay (fun c v _ q => q) (fun c q => by rw [upd_ne (ne_of_none q ha)]; exact q) fun c xs q => by rw [upd_ne (ne_of_none q ha)]; exact q, I.len⟩
end DL
namespace DL
open PySem L2 PyProof.Rows
theorem flying_keeps {B h h' : Heap} {l : List Env} {a : Addr} {Z : Obj → Prop} (f : HandSPX.FlyingZ B l a Z h) (k : ∀ b o, h.get? b = some o → h'.get? b = some o) : HandSPX.FlyingZ B l a Z h' := by
  obtain ⟨f1, f2, f3, oe, vs, T, oT, ts, g1, g2, g3, g4, g5, g6, g7, g8, g9⟩ := f
  exact ⟨fun b o z => k b o (f1 b o z), f2, f3.of_keeps fun b o z _ => ⟨o, k b o z, rfl⟩, oe, vs, T, oT, ts, k _ _ g1, g2, g3, g4, g5, g6, k _ _ g7, g8, g9⟩
def wCat (K : Fg) (cs : List Value) (i j : Nat) (D : Ends) : WX := fun cls d σ H => PySem.W.exmAny K cls cs = some true ∧ ∃ C, cls = .ref C ∧ ∀ a, H a = none → D.nx (((σ.set i (some (.ref a))).set j (some (.ref a))).set i none) (upd H a (ExcO a C d))
section
variable {X : Cx} {n : Str} {i j : Nat} {te : Expr} {cs : List Value} {body suite : List Stmt} {b0 : Stmt} {pos pos' : Pos} {tb : WX → TS}
theorem ps_tryX (hs : X.stack = X.env :: X.outer) (hf : X.env.frame = some X.env.locals) (hex : X.ex = []) (hN : X.N.Nodup) (hi : X.N[i]? = some n) (hln : X.env.kindOf n = some .local) (ht : TestX X te cs)
    (hb : ∀ (W : WX) (pn : List (Addr × Obj)) (xe : Value → Shared → Prop), Takes (X.tr pn xe) W → PassesOwn (model X.prog X.w) X.A X.env xe → PSs (X.tr pn xe) body (tb W))
    (hsu : ∀ (a : Addr) (pn : List (Addr × Obj)), PSs (X.suite a pn) (b0 :: suite) (tAsg (tVar i) (gName j))) :
    PS X (.Try body [.ExceptHandler (some te) (some n) (b0 :: suite) pos'] [] [] pos) (fun D σ H => tb (wCat X.K cs i j D) D σ H) := by
  refine ⟨fun pins s σ H D I h => ?_⟩
  have ok := I.ok
  have hfr : X.A.frames = some (X.env :: X.outer) := by (rw [ok.frames, hs])
  refine wpAny_Try_except ?_
  refine wpAny_mono ((hb (wCat X.K cs i j D) (X.pn ++ pins) (fun e s₁ => wpAny (model X.prog X.w) X.A (noteFrame e X.env) (fun _ s₂ => wpAny (model X.prog X.w) X.A (setFlight e none) (fun _ s₃ => wpAny (model X.prog X.w) X.A (handleBy e X.env [.ExceptHandler (some te) (some n) (b0 :: suite) pos']) (SP X pins D) X.xe s₃) X.xe s₂) X.xe s₁) (fun u s' xx => ?_) PassesOwn.looking).run [] s σ H D (I.toTry _) h) (fun f s1 hsp => ?_) (fun e s1 he => he)
  · obtain ⟨a, B, sI, pins', σ', H', cls, d, e1, J', nb, up, sky, na, os, ag, hb1, C, e2, hq⟩ := xx
    subst e1 e2
    have J : L2.Inv X pins σ' H' sI := J'.ofTry ok
    have sky' : Sky B (X.env :: X.outer) a (Zc (.ref C) d) X.env.locals s'.heap := by (rw [← hs]; exact sky)
    show wpAny (model X.prog X.w) X.A (noteFrame (.ref a) X.env) _ _ _; refine Sky.land Zc.steady hfr hf sky' fun h3 fl3 up3 => ?_
    have J3 : L2.Inv X pins σ' H' { s' with heap := h3 } := J.landed nb fl3.1 (up.trans up3) os ag
    obtain ⟨oe3, vs3, he3, hz3, hd3⟩ := fl3.there
    have notFr : ∀ {h : Heap} {o : Obj} {vs : Array Value}, h.FunFrames B (X.env :: X.outer) → h.get? a = some o → o.data = .fields vs → a ∉ frs (X.env :: X.outer) := by
      intro h o vs ff e dd hm
      obtain ⟨_, o', e', hnf⟩ := ff.mem hm
      rw [e] at e'
      cases e'
      exact hnf _ dd
    have nfr := notFr fl3.2.2.1 he3 hd3
    have nL : a ≠ X.env.locals := fun z => nfr (List.mem_filterMap.mpr ⟨X.env, List.mem_cons_self, by (rw [hf, z])⟩)
    have nF : a ∉ X.fs := by
      intro hm
      obtain ⟨e, he, q⟩ := List.mem_filterMap.mp hm
      exact nfr (List.mem_filterMap.mpr ⟨e, List.mem_cons_of_mem _ he, q⟩)
    have hen : B.get? a = none := fl3.2.1
    -- what stood in sI is not a
    have nB : ∀ b o, sI.heap.get? b = some o → b ≠ a := by
      intro b o e z
      subst z
      by_cases hm : b ∈ frs X.stack
      · rw [hs] at hm; exact nfr hm
      · have := nb b o e hm
        rw [hen] at this; cases this
    have S3 := J3.suite he3 hd3 na nL nF
    refine wpAny_handleBy_cons (codeAny_handlers_test ?_) (by intro q; cases q)
    refine ht a _ [] σ' H' { s' with heap := h3 } _ _ S3 fun cv s4 S4 k4 os4 ag4 hlk => ?_
    have fl4 := flying_keeps fl3 k4
    have up4 : h3.UpToSlots s4.heap := Heap.UpToSlots.of_keeps k4
    have LT : PySem.W.Looks (model X.prog X.w) s4.heap (typeOf (.ref a)) (.ref C) := fun A Q E s k q => wpAny_typeOf_ref (k _ _ (k4 _ _ he3)) (by (rw [hz3.1]; exact q))
    refine (hlk _ a true LT hb1).here ?_
    refine codeAny_handlers_suite_as ?_
    refine HandSPX.lands_againZ fl4 fun h5 fl5 up5 => ?_
    have J5 : L2.Inv X pins σ' H' { s4 with heap := h5 } := J.landed nb fl5.1 (((up.trans up3).trans up4).trans up5) (os4.trans os) ag4
    obtain ⟨oe5, vs5, he5, hz5, hd5⟩ := fl5.there
    have S5 := J5.suite he5 hd5 na nL nF
    have hloc : Loc X.env.scope n := .inl hln
    refine store_ok (X := X.suite a ((a, oe5) :: (X.pn ++ pins))) (v := .ref a) S5 hN hi hloc rfl (fun s6 S6 => ?_) (.inr hln)
    have hlt : i < σ'.length := by
      have := J5.len
      have := (List.getElem?_eq_some_iff.mp hi).1
      omega
    refine wpAny_mono ((hsu a ((a, oe5) :: (X.pn ++ pins))).run [] s6 _ H' ⟨fun σ7 H7 => σ7 = (σ'.set i (some (.ref a))).set j (some (.ref a)) ∧ H7 = H', fun _ _ => False, fun _ _ => False, fun _ _ => False⟩ S6 ⟨.ref a, by rw [List.getElem?_set_self hlt], rfl, rfl⟩) (fun f s7 hsp => ?_) (fun _ _ z => False.elim z)
    cases f with
    | next =>
      obtain ⟨σ7, H7, S7, e7, e8⟩ := hsp
      subst e7 e8
      have S7' : L2.Inv X ((a, oe5) :: pins) _ _ s7 := ⟨ok, S7.os, S7.bare, S7.base, S7.loc, S7.cell, S7.free, S7.freeC, fun p hp => S7.pin p (by
        rcases List.mem_append.mp hp with z | z
        · exact List.mem_append_left _ (List.mem_cons_of_mem _ (List.mem_append_left _ z))
        · rcases List.mem_cons.mp z with z | z
          · subst z; exact List.mem_append_left _ List.mem_cons_self
          · exact List.mem_append_left _ (List.mem_cons_of_mem _ (List.mem_append_right _ z))), S7.hok, S7.len⟩
      refine gone_ok S7' hN hi hln fun s8 J8 => ?_
      obtain ⟨pa, pn0, _, _, pc⟩ := J8.pin (a, oe5) (List.mem_append_right _ List.mem_cons_self)
      have J9 : L2.Inv X pins _ _ s8 := ⟨J8.ok, J8.os, J8.bare, J8.base, J8.loc, J8.cell, J8.free, J8.freeC, fun p hp => J8.pin p (by
        rcases List.mem_append.mp hp with z | z
        · exact List.mem_append_left _ z
        · exact List.mem_append_right _ (List.mem_cons_of_mem _ z)), J8.hok, J8.len⟩
      refine ⟨_, _, Inv.track J9 na (fun H'' => ?_) (fun ob e n hx => ?_) nL (fun x c e z => ?_) (fun p hp z => ?_), hq a na⟩
      · refine ⟨⟨oe5, vs5, pa, hz5.1, hz5.2, hd5⟩, ⟨_, pa⟩, fun h1 h2 z k => ?_⟩
        obtain ⟨o1, v1, q1, q2⟩ := z
        exact ⟨o1, v1, k _ q1, q2⟩
      · obtain ⟨o', e'⟩ := J.base.there a ob e hx
        exact nB a o' e' rfl
      · obtain ⟨v, o', e', hdc⟩ := J.cell x c e
        exact nB c o' e' z
      · obtain ⟨z1, _⟩ := J.pin p hp
        exact nB p.1 p.2 z1 z
    | brk => obtain ⟨_, _, _, q⟩ := hsp; exact q.elim
    | cont => obtain ⟨_, _, _, q⟩ := hsp; exact q.elim
    | ret u => obtain ⟨_, _, _, _, _, q⟩ := hsp; exact q.elim
  · cases f with
    | next =>
      obtain ⟨σ', H', J', q⟩ := hsp
      exact wpAny_execs_nil ⟨σ', H', J'.ofTry ok, q⟩
    | brk =>
      obtain ⟨σ', H', J', q⟩ := hsp
      exact ⟨σ', H', J'.ofTry ok, q⟩
    | cont =>
      obtain ⟨σ', H', J', q⟩ := hsp
      exact ⟨σ', H', J'.ofTry ok, q⟩
    | ret u =>
      obtain ⟨v, σ', H', J', r, q⟩ := hsp
      exact ⟨v, σ', H', J'.ofTry ok, r, q⟩
end
end DL
namespace DL
open PySem L2 PyProof.Rows
def sTry (i j : Nat) (CS : List Str) (mb : MS) (mx : MX) : MS := fun r O => mb r O ∨ mx r fun C fs r' => rqB (CS.contains C) (strict (((r'.set i (some (.ob (.exc C fs)))).set j (some (.ob (.exc C fs)))).set i none) O.nx)
theorem XdOk.ob {K : Fg} {F : Hp} {a : Addr} {C : Str} {fs : List (Str × D)} {cls : Value} {d : Option Addr} (h : XdOk K F C fs cls d) (hF : F a = none) : cls = .ref (He.ga K C) ∧ ObOk K (upd F a (ExcO a (He.ga K C) d)) (.ref a) (.exc C fs) := by
  cases h with
  | non => exact ⟨rfl, .exc0 upd_same⟩
  | som h1 h2 h3 => exact ⟨rfl, .exc upd_same (by rw [upd_ne (ne_of_none h1 hF)]; exact h1) h2 (h3.mono (Sub.new hF))⟩
theorem ds_try {X : Cx} {n : Str} {i j : Nat} {te : Expr} {cs : List Value} {body suite : List Stmt} {b0 : Stmt} {pos pos' : Pos} {CS : List Str} {mb : MS} {mx : MX} (hs : X.stack = X.env :: X.outer) (hf : X.env.frame = some X.env.locals) (hex : X.ex = []) (hN : X.N.Nodup) (hi : X.N[i]? = some n) (hln : X.env.kindOf n = some .local) (ht : TestX X te cs)
    (hcat : ∀ C ∈ CS, PySem.W.exmAny X.K (.ref (He.ga X.K C)) cs = some true) (hb : ∀ (pn : List (Addr × Obj)) (xe : Value → Shared → Prop), DSs (X.tr pn xe).nox body mb) (hx : ∀ (pn : List (Addr × Obj)) (xe : Value → Shared → Prop), SsX (X.tr pn xe) body mx)
    (hsu : ∀ (a : Addr) (pn : List (Addr × Obj)), PSs (X.suite a pn) (b0 :: suite) (tAsg (tVar i) (gName j))) : DS X (.Try body [.ExceptHandler (some te) (some n) (b0 :: suite) pos'] [] [] pos) (sTry i j CS mb mx) := fun e => by
  refine PS.imp (ps_tryX (tb := fun W D s H => TSt X.K e mb D s H ∨ TX X.K e mx W s H) hs hf hex hN hi hln ht (fun W pn xe tk _ => ⟨fun pins s σ H D I h => ?_⟩) hsu) fun D s H ⟨F, r, k, O, hm, hO⟩ => ?_
  · rcases h with h | h
    · exact (PSs.nox (hb pn xe e)).run pins s σ H D I h
    · exact (hx pn xe e W tk).run pins s σ H D I h
  · rcases hm with hm | hm
    · exact .inl ⟨F, r, k, O, hm, hO⟩
    · refine .inr ⟨F, r, k, _, hm, fun C fs r' s' F' H' cls d hp k' q xd => ?_⟩
      obtain ⟨hc, hp⟩ := rqB.ex hp
      have hmem : C ∈ CS := by simpa using hc
      have ec : cls = .ref (He.ga X.K C) := by cases xd <;> rfl
      subst ec
      refine ⟨hcat C hmem, _, rfl, fun a ha => ?_⟩
      have fr := k'.free ha
      have k1 : Ok X.K e (upd F' a (ExcO a (He.ga X.K C) d)) r' s' (upd H' a (ExcO a (He.ga X.K C) d)) := k'.lay ha
      have ob := (xd.ob fr.1 (a := a)).2
      have k2 := (k1.storeOb (i := i) ob).storeOb (i := j) ob
      have k3 := k2.wipe [i]
      exact hO.nx _ _ _ _ hp.ex k3 (q.trans (Sub.new fr.1))
def excOf : R → Option (Str × List (Str × D))
  | .ob (.exc C fs) => some (C, fs)
  | _ => none
theorem excOf_of {x : R} {q : Str × List (Str × D)} (h : excOf x = some q) : x = .ob (.exc q.1 q.2) := by
  unfold excOf at h
  split at h
  · cases h; rfl
  · cases h
/-- an error stands at a -/
def ExcAt (H : Hp) (a C : Addr) : Prop := ∃ d, H a = some (ExcO a C d) ∧ ∀ dx, d = some dx → ∃ gs, H dx = some (.xd gs)
theorem ObOk.excAt {K : Fg} {F H : Hp} {v : V} {C : Str} {fs : List (Str × D)} (h : ObOk K F v (.exc C fs)) (s : Sub F H) : ∃ a, v = .ref a ∧ ExcAt H a (He.ga K C) := by
  cases h with
  | exc0 h1 => exact ⟨_, rfl, none, s _ _ h1, fun dx z => by cases z⟩
  | exc h1 h2 _ _ => exact ⟨_, rfl, _, s _ _ h1, fun dx z => by cases z; exact ⟨_, s _ _ h2⟩⟩
def rIsX (K : Fg) (xs : List V) (H : Hp) (Q : VK) : Prop := ∃ (a C : Addr) (b : Bool), ExcAt H a C ∧ ExcC K C ∧ ((∃ c, xs = [.ref a, .ref c] ∧ PySem.W.kitOne K (.ref C) (.ref c) = some b) ∨ ∃ (p : Addr) (l : List Addr), xs = [.ref a, .ref p] ∧ SqT K H p (l.map V.ref) ∧ PySem.W.kitAny K (.ref C) (l.map Value.ref) = some b) ∧ Q (.bl b) H
theorem refs_vals : ∀ {l : List Addr} {us : List Value}, Vals (l.map V.ref) us → us = l.map Value.ref
  | [], _, r => by cases r; rfl
  | a :: l, _, r => by
    cases r with
    | cons h t => cases h; rw [refs_vals t]; rfl
theorem call_isX {X : Cx} : CallR X (.builtin "isinstance") (rIsX X.K) := by
  intro pins s σ H xs us Q I r ⟨a, C, b, ⟨d, h1, h2⟩, T, hx, q⟩
  have x1 : ObjOk X.prog X.w H s.heap a (.ext fun h => ∃ (oe : Obj) (vs : Array Value), h.get? a = some oe ∧ oe.cls = .ref C ∧ oe.dict = d ∧ oe.data = .fields vs) := I.hok a _ h1
  obtain ⟨⟨oe, vs, g1, g2, g3, g4⟩, _, _⟩ := x1
  obtain ⟨od, J⟩ : ∃ od, PySem.W.InstAt s.heap a oe C od := by
    cases d with
    | none => exact ⟨none, g1, g2, by unfold PySem.W.notCls; rw [g4], by rw [g3]; trivial⟩
    | some dx =>
      obtain ⟨gs, h3⟩ := h2 dx rfl
      have x2 : ObjOk X.prog X.w H s.heap dx (.xd gs) := I.hok dx _ h3
      obtain ⟨mA, ⟨o2, es, ep, e2, _⟩, _⟩ := x2
      exact ⟨some o2, g1, g2, by unfold PySem.W.notCls; rw [g4], by rw [g3]; exact e2⟩
  have hcl : (PySem.W.clsIn X.K C).isSome = true := by
    obtain ⟨cd, hc, _⟩ := PySem.W.any_some T.hd
    rw [hc]; rfl
  have Z := PySem.W.kitx_exc (x := a) (od := od) (ox := oe) hcl T.hg T.hk T.hs T.ha T.hn T.ht T.hm
  rcases hx with ⟨c, ex, ek⟩ | ⟨p, l, ex, hp, ek⟩
  · subst ex
    cases r with | cons ra rr =>
    cases rr with | cons rb rr =>
    cases rr
    cases ra; cases rb
    exact PySem.W.kia_one Z I.kIn J ek (fun z => nomatch z) fun tk => ⟨.bl b, H, I.kept (t' := tk) fun _ _ z => z, rfl, q⟩
  · subst ex
    cases r with | cons ra rr =>
    cases rr with | cons rb rr =>
    cases rr
    cases ra; cases rb
    obtain ⟨its, rv, ⟨⟨cc, dd, dt, sl⟩, e1, e2, n, e3⟩, _⟩ := I.tuple hp
    simp only at e2 e3
    subst e2 e3
    have ei := refs_vals rv
    subst ei
    exact PySem.W.kia_tup Z I.kIn J e1 ek (fun z => nomatch z) fun tk => ⟨.bl b, H, I.kept (t' := tk) fun _ _ z => z, rfl, q⟩
/-- what is told of isinstance, by the error's class -/
def mIsX (tb : List (Str × Bool)) (ma : ME) : ME := fun r P => ma r fun x r1 => onO (excOf x.tmp) fun q => onO (tb.lookup q.1) fun b => P (.val (.bool b)) r1
theorem lookup_mem {α : Type} {C : Str} {b : α} : ∀ {tb : List (Str × α)}, tb.lookup C = some b → (C, b) ∈ tb
  | [], h => by cases h
  | (D, c) :: tb, h => by
    simp only [List.lookup] at h
    split at h
    · rename_i e
      cases h
      rw [beq_iff_eq.mp e]
      exact List.mem_cons_self
    · exact List.mem_cons_of_mem _ (lookup_mem h)
theorem de_isX1 {X : Cx} {a : Expr} {ma : ME} {tb : List (Str × Bool)} {y : Str} {p p2 pos : Pos} (hk : ∀ q ∈ tb, PySem.W.kitOne X.K (.ref (He.ga X.K q.1)) (.ref (He.ga X.K y)) = some q.2 ∧ ExcC X.K (He.ga X.K q.1)) (hg : Gl X "isinstance") (hm : X.mg "isinstance" = none) (hv : bootBuiltins "isinstance" = some (.builtin "isinstance"))
    (hgy : Gl X y) (hmy : X.mg y = some (.ref (He.ga X.K y))) (ha : DE X a ma) (hd : (y == ("__debug__" : Str)) = false := by decide) (he : starEach [a, .Name y p2] X.env = (false, eval a X.env) :: starEach [.Name y p2] X.env := by rfl) : DE X (.Call (.Name "isinstance" p) [a, .Name y p2] [] pos) (mIsX tb ma) := fun e =>
  PE.imp (pe_callB call_isX hg hm hv (pa_cons (ha.tmp e) (pa_cons (pe_glob (v := .ref (He.ga X.K y)) hgy hmy rfl hd) pa_nil) he) (he := he)) fun s H Q ⟨F, r, k, P, hm, hP⟩ => ⟨F, r, k, fun x r1 => onO (excOf x) fun q => onO (tb.lookup q.1) fun b => P (.val (.bool b)) r1, hm, fun x r1 v F1 H1 hx k1 q1 t1 => by
    obtain ⟨⟨C, fs⟩, e1, hx2⟩ := onO.ex hx
    obtain ⟨b, e2, hp⟩ := onO.ex hx2
    have e3 := excOf_of e1
    subst e3
    cases t1 with | ob t1 =>
    obtain ⟨ad, ev, hat⟩ := t1.excAt k1.sub
    obtain ⟨hk1, hk2⟩ := hk _ (lookup_mem e2)
    exact ⟨ad, _, b, hat, hk2, .inl ⟨_, by rw [ev], hk1⟩, hP _ r1 _ F1 H1 hp k1 q1 (.val (.bl _))⟩⟩
/-- isinstance(e, (C, D, ..)) -/
inductive ClsEs (X : Cx) : List Expr → List Str → Prop
  | nil : ClsEs X [] []
  | cons {x : Str} {p : Pos} {es : List Expr} {xs : List Str} : Gl X x → X.mg x = some (.ref (He.ga X.K x)) → (x == ("__debug__" : Str)) = false → starEach (.Name x p :: es) X.env = (false, eval (.Name x p) X.env) :: starEach es X.env → ClsEs X es xs → ClsEs X (.Name x p :: es) (x :: xs)
theorem clsEs_pa {X : Cx} {es : List Expr} {xs : List Str} (h : ClsEs X es xs) : PA X es (fun _ H Q => Q (xs.map fun x => V.ref (He.ga X.K x)) H) := by
  induction h with
  | nil => exact PA.imp pa_nil fun s H Q q => q
  | @cons x p es xs hg hm hd hst _ ih => exact PA.imp (pa_cons (pe_glob (v := .ref (He.ga X.K x)) hg hm rfl hd) ih hst) fun s H Q q => q
theorem de_isXT {X : Cx} {a : Expr} {ma : ME} {tb : List (Str × Bool)} {es : List Expr} {ys : List Str} {kk : Nat} {p p2 pos : Pos} (hk : ∀ q ∈ tb, PySem.W.kitAny X.K (.ref (He.ga X.K q.1)) (clsV X.K ys) = some q.2 ∧ ExcC X.K (He.ga X.K q.1)) (hg : Gl X "isinstance") (hm : X.mg "isinstance" = none) (hv : bootBuiltins "isinstance" = some (.builtin "isinstance"))
    (hy : ClsEs X es ys) (hl : ys.length ≤ 20) (ha : DE X a ma) (he : starEach [a, .Tuple es kk p2] X.env = (false, eval a X.env) :: starEach [.Tuple es kk p2] X.env := by rfl) : DE X (.Call (.Name "isinstance" p) [a, .Tuple es kk p2] [] pos) (mIsX tb ma) := fun e =>
  PE.imp (pe_callB call_isX hg hm hv (pa_cons (ha.tmp e) (pa_cons (pe_tupZ (clsEs_pa hy)) pa_nil) he) (he := he)) fun s H Q ⟨F, r, k, P, hm, hP⟩ => ⟨F, r, k, fun x r1 => onO (excOf x) fun q => onO (tb.lookup q.1) fun b => P (.val (.bool b)) r1, hm, fun x r1 v F1 H1 hx k1 q1 t1 => by
    obtain ⟨⟨C, fs⟩, e1, hx2⟩ := onO.ex hx
    obtain ⟨b, e2, hp⟩ := onO.ex hx2
    have e3 := excOf_of e1
    subst e3
    cases t1 with | ob t1 =>
    refine ⟨by rw [List.length_map, sizeLine_eq]; omega, fun pp o np nd => ?_⟩
    have k2 := k1.lay (o := tupO o (ys.map fun x => V.ref (He.ga X.K x))) np
    have fr := k1.free np
    have t2 := t1.mono (Sub.new (o := tupO o (ys.map fun x => V.ref (He.ga X.K x))) fr.1)
    obtain ⟨ad, ev, hat⟩ := t2.excAt k2.sub
    obtain ⟨hk1, hk2⟩ := hk _ (lookup_mem e2)
    have al : (ys.map fun x => V.ref (He.ga X.K x)).all noIntV = true := by rw [List.all_map]; exact List.all_eq_true.mpr fun _ _ => rfl
    have ht : SqT X.K (upd H1 pp (tupO o (ys.map fun x => V.ref (He.ga X.K x)))) pp ((ys.map fun x => He.ga X.K x).map V.ref) := by
      refine .inl (.inr ⟨o, ?_⟩)
      rw [upd_same]
      unfold tupO
      rw [al, List.map_map]
      rfl
    refine ⟨ad, _, b, hat, hk2, .inr ⟨pp, ys.map fun x => He.ga X.K x, by rw [ev], ht, ?_⟩, hP _ r1 _ _ _ hp k2 (q1.trans (Sub.new fr.1)) (.val (.bl _))⟩
    rw [List.map_map]
    exact hk1⟩
/-- e is None, e is not None -/
def isNoR (x : R) : Option Bool := match x with
  | .val d => some (isNone d)
  | .ob (.exc _ _) => some false
  | _ => none
def mIsNo (neg : Bool) (ma : ME) : ME := fun r P => ma r fun x r1 => onO (isNoR x.tmp) fun b => P (.val (.bool (xor neg b))) r1
theorem isNoR_of {K : Fg} {F H : Hp} {s : L2.St} {x : R} {v : V} {b : Bool} (h : isNoR x = some b) (t : RT K F s x v) : (v = .non ↔ b = true) := by
  unfold isNoR at h
  split at h
  · rename_i d
    cases t with | val t =>
    cases h
    cases t <;> simp [isNone]
  · cases h
    cases t with | ob t =>
    cases t <;> simp
  · cases h
end DL
namespace DL
open PySem L2 PyProof.Rows
section
variable {X : Cx} {a : Expr} {ma : ME} {pos p : Pos} {j : Nat}
theorem isNo_read {e : En} {neg : Bool} {s : L2.St} {H : Hp} {Q : VK} (h : T X.K e (mIsNo neg ma) s H Q) : tOp (fun x y H Q => y = .non ∧ Q (.bl (xor neg (decide (x = .non)))) H) (Tt X.K e (mTmp ma)) (tC .non) s H Q := by
  obtain ⟨F, r, k, P, hm, hP⟩ := h
  refine ⟨F, r, k, fun x r1 => onO (isNoR x) fun b => P (.val (.bool (xor neg b))) r1, hm, fun x r1 v F1 H1 hx k1 q1 t1 => ?_⟩
  obtain ⟨b, e1, hp⟩ := onO.ex hx
  have hb := isNoR_of (H := H1) e1 t1
  have hd : decide (v = .non) = b := by
    cases b with
    | true => exact decide_eq_true (hb.mpr rfl)
    | false => exact decide_eq_false fun z => by have := hb.mp z; cases this
  exact ⟨rfl, by rw [hd]; exact hP _ r1 _ F1 H1 hp k1 q1 (.val (.bl _))⟩
theorem op_isF : OpR X (compareOp .Is) (fun x y H Q => y = .non ∧ Q (.bl (xor false (decide (x = .non)))) H) := fun pins s σ H x y v u Q I rx ry ⟨h, q⟩ => op_isN pins s σ H x y v u Q I rx ry ⟨h, by rw [Bool.false_xor] at q; exact q⟩
theorem dt_isNo (ha : DE X a ma) (hm : behindInMarks .Is (.Constant .none j p) = false := by rfl) : DT X (.Compare a [.Is] [.Constant .none j p] pos) (mTest (mIsNo false ma)) := fun e => PT.imp (pt_cmpR op_isF (ha.tmp e) pe_non hm) fun s H Q h => tTest_of (fun s H Q h => isNo_read h) h
end
def tXfd (K : Fg) (f : Str) (te : TE) : TE := fun σ H Q => te σ H fun x H1 => ∃ (a C dx : Addr) (gs : List (Str × V)) (v : V), x = .ref a ∧ H1 a = some (ExcO a C (some dx)) ∧ H1 dx = some (.xd gs) ∧ gs.lookup f = some v ∧ XfC K C ∧ PySem.W.findIn K (.ref C) f = some none ∧ Q v H1
theorem pe_xfd {X : Cx} {e : Expr} {te : TE} {pos : Pos} {n : Str} (he : PE X e te) (hb : attributeBase e n X.env (eval e X.env) = eval e X.env := by rfl) : PE X (.Attribute e n pos) (tXfd X.K n te) := by
  refine ⟨fun pins s σ H Q I h => attr_of hb (thn (he.run pins s σ H _ I h) fun u s1 hh => ?_)⟩
  obtain ⟨x, H1, I1, rx, a, C, dx, gs, v, ex, h1, h2, l, T, hno, q⟩ := hh
  subst ex
  have rx : u = Value.ref a := rx
  subst rx
  have x1 : ObjOk X.prog X.w H1 s1.heap a (.ext fun h => ∃ (oe : Obj) (vs : Array Value), h.get? a = some oe ∧ oe.cls = .ref C ∧ oe.dict = some dx ∧ oe.data = .fields vs) := I1.hok a _ h1
  obtain ⟨⟨oe, vs, g1, g2, g3, g4⟩, _, _⟩ := x1
  have hx : ObjOk X.prog X.w H1 s1.heap dx (.xd gs) := I1.hok dx _ h2
  obtain ⟨mA, hns, hr⟩ := hx
  obtain ⟨od, ho, hl⟩ := lookIn_ns hns
  obtain ⟨u, hu, ru⟩ := RelO.some_of (v := v) (o := mA n) (by rw [← l]; exact hr n)
  have J : PySem.W.InstAt s1.heap a oe C (some od) := ⟨g1, g2, by unfold PySem.W.notCls; rw [g4], by rw [g3]; exact ho⟩
  exact HandSPX.exc_get I1.kIn J T.ga T.gg T.exC (PySem.W.findObj_own T.hdC hno rfl (by rw [hl, hu])) (handed_of ru) ⟨v, H1, I1.tok _, ru, q⟩
def mXfd (f : Str) (CS : List Str) (ma : ME) : ME := fun r P => ma r fun x r1 => onO (excOf x.tmp) fun q => rqB (CS.contains q.1) (onO (q.2.lookup f) fun d => P (.val d) r1)
theorem lookup_rp {K : Fg} {F : Hp} {f : Str} {d : D} : ∀ {gs : List (Str × V)} {fs : List (Str × D)}, fs.map (·.1) = gs.map (·.1) → RpA K F (gs.map (·.2)) (fs.map (·.2)) → fs.lookup f = some d → ∃ v, gs.lookup f = some v ∧ Rp K F v d
  | [], [], _, _, h => by cases h
  | [], _ :: _, e, _, _ => by cases e
  | _ :: _, [], e, _, _ => by cases e
  | (g, v) :: gs, (k, c) :: fs, e, r, h => by
    simp only [List.map_cons, List.cons.injEq] at e
    cases r with | cons r1 r2 =>
    have e1 : k = g := e.1
    subst e1
    simp only [List.lookup] at h ⊢
    split at h
    · cases h
      exact ⟨v, by simp_all, r1⟩
    · exact lookup_rp e.2 r2 h
theorem de_xfd {X : Cx} {a : Expr} {ma : ME} {f : Str} {CS : List Str} {pos : Pos} (hk : ∀ C ∈ CS, XfC X.K (He.ga X.K C) ∧ PySem.W.findIn X.K (.ref (He.ga X.K C)) f = some none) (ha : DE X a ma) (hb : attributeBase a f X.env (eval a X.env) = eval a X.env := by rfl) : DE X (.Attribute a f pos) (mXfd f CS ma) := fun e =>
  PE.imp (pe_xfd (ha.tmp e) hb) fun s H Q ⟨F, r, k, P, hm, hP⟩ => ⟨F, r, k, fun x r1 => onO (excOf x) fun q => rqB (CS.contains q.1) (onO (q.2.lookup f) fun d => P (.val d) r1), hm, fun x r1 v F1 H1 hx k1 q1 t1 => by
    obtain ⟨⟨C, fs⟩, e1, hx2⟩ := onO.ex hx
    obtain ⟨hc, hx3⟩ := rqB.ex hx2
    obtain ⟨d, e2, hp⟩ := onO.ex hx3
    have e3 := excOf_of e1
    subst e3
    obtain ⟨T, hno⟩ := hk C (by simpa using hc)
    cases t1 with | ob t1 =>
    cases t1 with
    | exc0 _ => cases e2
    | exc h1 h2 h3 h4 =>
      obtain ⟨w, l, rp⟩ := lookup_rp h3 h4 e2
      exact ⟨_, _, _, _, w, rfl, k1.sub _ _ h1, k1.sub _ _ h2, l, T, hno, hP _ r1 _ F1 H1 hp k1 q1 (.val rp)⟩⟩
/-- facts of classes of errors: a maker with its own __init__ (over ValueError or KeyError), one without, an error's kind, isinstance, an except clause, a base's __init__ -/
inductive XF where
  | mk1 (x f : Str) (ve : Bool) | mk0 (x : Str) (b : Nat) | kin (x : Str) | isA (x : Str) (ys : List Str) (b : Bool) | is1 (x y : Str) (b : Bool) | cat (x : Str) (ys : List Str) | base (x : Str) (ve : Bool) | fld (x f : Str) | isB (x : Str) (T : String) (b : Bool) | cno (x : Str) (ys : List Str) | noC (y : Str)
def xcB (K : Fg) (C : Addr) (tl : List Value) (newId : String) : Bool := (match K.lookup C with
  | some ⟨.type c, _, .cls cd, sl⟩ => (match cd.mro, sl.toList with
    | .ref C' :: bm, [_, _, _, _, some (.builtin n), _] => decide (c = "type") && (decide (C' = C) && (DLX.refsT tl bm && (cd.hasDict && (!cd.hasDel && decide (n = newId)))))
    | _, _ => false)
  | _ => false) && (decide (PySem.W.findIn K (.ref C) "__setattr__" = some (some (.builtin "object.__setattr__"))) && (decide (PySem.W.subIn K (.ref C) (.type "BaseException") = some true) && (decide (PySem.W.typeIn K (.ref C) = some (.type "type")) && PySem.W.keepIn K (.ref C))))
theorem xcB_ok {K : Fg} {C : Addr} {tl : List Value} {newId : String} (h : xcB K C tl newId = true) : XcC K C tl newId := by
  unfold xcB at h
  simp only [Bool.and_eq_true, decide_eq_true_eq] at h
  obtain ⟨h1, h2, h3, h4, h5⟩ := h
  refine ⟨?_, h2, h3, h4, h5⟩
  split at h1
  · rename_i c dd cd sl hl
    split at h1
    · rename_i C' bm k0 k1 k2 k3 n k5 hm hsl
      simp only [Bool.and_eq_true, decide_eq_true_eq, Bool.not_eq_true'] at h1
      obtain ⟨q1, q2, q3, q4, q5, q6⟩ := h1
      obtain ⟨c1, c2, c3, c4, c5, c6, c7, c8, c9, c10, c11⟩ := cd
      simp only at hm q4 q5
      have esl : sl = #[k0, k1, k2, k3, some (.builtin n), k5] := by
        apply Array.toList_inj.mp
        rw [hsl]
      subst hm q1 q2 q4 q5 q6 esl
      exact ⟨_, _, _, _, _, _, _, _, _, _, _, _, _, _, _, hl, q3⟩
    · cases h1
  · cases h1
def excCB (K : Fg) (C : Addr) : Bool := decide (PySem.W.findIn K (.ref C) "__getattribute__" = some (some (.builtin "BaseException.__getattribute__"))) && (decide (PySem.W.findIn K (.ref C) "__getattr__" = some none) && (decide (PySem.W.subIn K (.ref C) (.type "BaseException") = some true) && (PySem.W.hasDictIn K C &&
  (decide (PySem.W.findIn K (.ref C) "__class__" = some (some (.builtin "object.__class__"))) && (decide (PySem.W.specialIn K (.builtin "object.__class__") "__get__" = some (some (.builtin "getset_descriptor.__get__"))) && (decide (PySem.W.takesIn K (.builtin "object.__class__") = some true) && decide (PySem.W.mroIn K C (.type "object") = some true)))))))
theorem excCB_ok {K : Fg} {C : Addr} (h : excCB K C = true) : ExcC K C := by
  unfold excCB at h
  simp only [Bool.and_eq_true, decide_eq_true_eq] at h
  obtain ⟨h1, h2, h3, h4, h5, h6, h7, h8⟩ := h
  exact ⟨h1, h2, h3, h4, h5, h6, h7, h8⟩
def xbN : Nat → String × String × List Value
  | 0 => ("ValueError.__new__", "ValueError.__init__", [.type "ValueError", .type "Exception", .type "BaseException", .type "object"])
  | 1 => ("LookupError.__new__", "LookupError.__init__", [.type "LookupError", .type "Exception", .type "BaseException", .type "object"])
  | 2 => ("IndexError.__new__", "IndexError.__init__", [.type "IndexError", .type "LookupError", .type "Exception", .type "BaseException", .type "object"])
  | _ => ("RuntimeError.__new__", "RuntimeError.__init__", [.type "RuntimeError", .type "Exception", .type "BaseException", .type "object"])
def initB (o : Option PySem.W.CFound) (n : String) : Bool := match o with
  | some (.val (.builtin m)) => decide (m = n)
  | _ => false
theorem initB_ok {o : Option PySem.W.CFound} {n : String} (h : initB o n = true) : o = some (.val (.builtin n)) := by
  unfold initB at h
  split at h
  · rw [of_decide_eq_true h]
  · cases h
def XF.ok (K : Fg) : XF → Bool
  | .mk1 x f ve => xcB K (He.ga K x) (if ve then HandSPX.veTail else DLX.keTail) (if ve then "ValueError.__new__" else "LookupError.__new__") && (decide (PySem.W.findIn K (.ref (He.ga K x)) f = some none) &&
      (decide (PySem.W.findIn K (.ref (He.ga K x)) "__init__" = some (some (.ref (He.ma K (He.ga K x) "__init__")))) && decide (PySem.W.typeIn K (.ref (He.ma K (He.ga K x) "__init__")) = some (.type "function"))))
  | .mk0 x b => PySem.W.excIn K (He.ga K x) (xbN b).2.2 (xbN b).1 && (PySem.W.keepIn K (.ref (He.ga K x)) && (decide (PySem.W.subIn K (.ref (He.ga K x)) (.type "BaseException") = some true) && decide (PySem.W.typeIn K (.ref (He.ga K x)) = some (.type "type"))))
  | .kin x => excCB K (He.ga K x)
  | .isA x ys b => decide (PySem.W.kitAny K (.ref (He.ga K x)) (clsV K ys) = some b)
  | .is1 x y b => decide (PySem.W.kitOne K (.ref (He.ga K x)) (.ref (He.ga K y)) = some b)
  | .cat x ys => decide (PySem.W.exmAny K (.ref (He.ga K x)) (clsV K ys) = some true)
  | .base x ve => if ve then PySem.W.readsIn K (He.ga K x) (.type "type") && (decide (PySem.W.specialIn K (.ref (He.ga K x)) "__getattribute__" = some (some (.builtin "type.__getattribute__"))) && initB (PySem.W.findCls K (.ref (He.ga K x)) (.type "type") "__init__") "ValueError.__init__")
      else initB (PySem.W.findCls K (.type "KeyError") (.type "type") "__init__") "KeyError.__init__"
  | .fld x f => xfB K (He.ga K x) && decide (PySem.W.findIn K (.ref (He.ga K x)) f = some none)
  | .isB x T b => decide (PySem.W.kitOne K (.ref (He.ga K x)) (.type T) = some b)
  | .cno x ys => decide (PySem.W.exmAny K (.ref (He.ga K x)) (clsV K ys) = some false)
  | .noC y => decide (PySem.W.kitOne K (.type "NoneType") (.ref (He.ga K y)) = some false)
section
variable {K : Fg} {mg : Str → Option Value} {x y f : Str} {ys : List Str} {b : Bool}
theorem XF.kin_ok (h : (XF.kin x).ok K = true) : ExcC K (He.ga K x) := excCB_ok h
theorem XF.isA_ok (h : (XF.isA x ys b).ok K = true) : PySem.W.kitAny K (.ref (He.ga K x)) (clsV K ys) = some b := of_decide_eq_true h
theorem XF.is1_ok (h : (XF.is1 x y b).ok K = true) : PySem.W.kitOne K (.ref (He.ga K x)) (.ref (He.ga K y)) = some b := of_decide_eq_true h
theorem XF.isB_ok {T : String} (h : (XF.isB x T b).ok K = true) : PySem.W.kitOne K (.ref (He.ga K x)) (.type T) = some b := of_decide_eq_true h
theorem XF.cat_ok (h : (XF.cat x ys).ok K = true) : PySem.W.exmAny K (.ref (He.ga K x)) (clsV K ys) = some true := of_decide_eq_true h
theorem XF.fld_ok (h : (XF.fld x f).ok K = true) : XfC K (He.ga K x) ∧ PySem.W.findIn K (.ref (He.ga K x)) f = some none := by
  obtain ⟨h1, h2⟩ := Bool.and_eq_true_iff.mp h
  exact ⟨xfB_ok h1, of_decide_eq_true h2⟩
theorem XF.baseT_ok (h : (XF.base x true).ok K = true) (hm : mg x = some (.ref (He.ga K x))) : BaseAt K mg x "ValueError.__init__" := by
  have h' : (PySem.W.readsIn K (He.ga K x) (.type "type") && (decide (PySem.W.specialIn K (.ref (He.ga K x)) "__getattribute__" = some (some (.builtin "type.__getattribute__"))) && initB (PySem.W.findCls K (.ref (He.ga K x)) (.type "type") "__init__") "ValueError.__init__")) = true := h
  simp only [Bool.and_eq_true, decide_eq_true_eq] at h'
  obtain ⟨h1, h2, h3⟩ := h'
  exact .inr ⟨_, hm, h1, h2, initB_ok h3⟩
end
section
variable {P : Program} {w : World} {K : Fg} {mg : Str → Option Value} {base : Heap} {x f qual tx : Str} {params : Arguments} {body : List Stmt} {scope : Scope} {fd : FuncData}
/-- a class with its own __init__: the head's facts and the walked body -/
theorem XF.mk1_okV (h : (XF.mk1 x f true).ok K = true) (hm : mg x = some (.ref (He.ga K x))) (F : FunD K "__init__" qual params body scope [] [] (He.ma K (He.ga K x) "__init__") fd) (S : FnScope ["self", f] ["self", f] scope)
    (hbody : ∀ (cdv : Value) (A : Around) (outer : List Env) (s : Shared) (H : Hp) (E : XK), PSs (cxOf CX0 P w K mg base ["self", f] qual scope (He.ma K (He.ga K x) "__init__") cdv A outer s H E) body (tXI K HandSPX.veTail "ValueError.__new__" f tx)) (hb : Binds K fd ["self", f] []) : XMk1 P w K mg base x f := by
  have h' : (xcB K (He.ga K x) HandSPX.veTail "ValueError.__new__" && (decide (PySem.W.findIn K (.ref (He.ga K x)) f = some none) && (decide (PySem.W.findIn K (.ref (He.ga K x)) "__init__" = some (some (.ref (He.ma K (He.ga K x) "__init__")))) && decide (PySem.W.typeIn K (.ref (He.ma K (He.ga K x) "__init__")) = some (.type "function"))))) = true := h
  simp only [Bool.and_eq_true, decide_eq_true_eq] at h'
  obtain ⟨h1, h2, h3, h4⟩ := h'
  exact ⟨_, _, _, _, _, _, hm, xb_VE, xcB_ok h1, h2, h3, h4, xinit_fn F S hbody, hb⟩
end
abbrev AlY : Type := AlX × Bool
def obsY (fa : List He.Fa) (fn : List He.DefD) (cs : List (Str × D)) (ts : List (Str × Tab)) (xs : List XF) (K : Fg) : AlY := (obsX fa fn cs ts K, xs.all fun f => f.ok K)
def valY (fn : List He.DefD) (ts : List (Str × Tab)) (w : World) : AlY := (valX fn ts w, true)
def SaysY (fa : List He.Fa) (fn : List He.DefD) (cs : List (Str × D)) (ts : List (Str × Tab)) (xs : List XF) (w : World) (K : Fg) : Prop := obsY fa fn cs ts xs K = valY fn ts w
section
variable {fa : List He.Fa} {fn : List He.DefD} {cs : List (Str × D)} {ts : List (Str × Tab)} {xs : List XF} {w : World} {K : Fg}
theorem SaysY.x (c : SaysY fa fn cs ts xs w K) : SaysX fa fn cs ts w K := congrArg (fun z : AlY => z.1) c
theorem SaysY.f (c : SaysY fa fn cs ts xs w K) (i : Nat) {f : XF} (e : xs[i]? = some f := by rfl) : f.ok K = true := by
  have c1 : (xs.all fun f => f.ok K) = true := congrArg (fun z : AlY => z.2) c
  exact List.all_eq_true.mp c1 _ (List.mem_of_getElem? e)
end
end DL
namespace DL
open PySem L2 PyProof.Rows
def rIsXB (K : Fg) (xs : List V) (H : Hp) (Q : VK) : Prop := ∃ (a C : Addr) (b : Bool) (T : String), ExcAt H a C ∧ ExcC K C ∧ xs = [.ref a, .ty T] ∧ PySem.W.kitOne K (.ref C) (.type T) = some b ∧ Q (.bl b) H
theorem call_isXB {X : Cx} : CallR X (.builtin "isinstance") (rIsXB X.K) := by
  intro pins s σ H xs us Q I r ⟨a, C, b, T, ⟨d, h1, h2⟩, TC, ex, ek, q⟩
  have x1 : ObjOk X.prog X.w H s.heap a (.ext fun h => ∃ (oe : Obj) (vs : Array Value), h.get? a = some oe ∧ oe.cls = .ref C ∧ oe.dict = d ∧ oe.data = .fields vs) := I.hok a _ h1
  obtain ⟨⟨oe, vs, g1, g2, g3, g4⟩, _, _⟩ := x1
  obtain ⟨od, J⟩ : ∃ od, PySem.W.InstAt s.heap a oe C od := by
    cases d with
    | none => exact ⟨none, g1, g2, by unfold PySem.W.notCls; rw [g4], by rw [g3]; trivial⟩
    | some dx =>
      obtain ⟨gs, h3⟩ := h2 dx rfl
      have x2 : ObjOk X.prog X.w H s.heap dx (.xd gs) := I.hok dx _ h3
      obtain ⟨mA, ⟨o2, es, ep, e2, _⟩, _⟩ := x2
      exact ⟨some o2, g1, g2, by unfold PySem.W.notCls; rw [g4], by rw [g3]; exact e2⟩
  have hcl : (PySem.W.clsIn X.K C).isSome = true := by
    obtain ⟨cd, hc, _⟩ := PySem.W.any_some TC.hd
    rw [hc]; rfl
  have Z := PySem.W.kitx_exc (x := a) (od := od) (ox := oe) hcl TC.hg TC.hk TC.hs TC.ha TC.hn TC.ht TC.hm
  subst ex
  cases r with | cons ra rr =>
  cases rr with | cons rb rr =>
  cases rr
  cases ra
  have rb : _ = Value.type T := rb
  subst rb
  exact PySem.W.kia_one Z I.kIn J ek (fun z => nomatch z) fun tk => ⟨.bl b, H, I.kept (t' := tk) fun _ _ z => z, rfl, q⟩
theorem de_isXB {X : Cx} {a : Expr} {ma : ME} {tb : List (Str × Bool)} {y : Str} {T : String} {p p2 pos : Pos} (hk : ∀ q ∈ tb, PySem.W.kitOne X.K (.ref (He.ga X.K q.1)) (.type T) = some q.2 ∧ ExcC X.K (He.ga X.K q.1)) (hg : Gl X "isinstance") (hm : X.mg "isinstance" = none) (hv : bootBuiltins "isinstance" = some (.builtin "isinstance"))
    (hgy : Gl X y) (hmy : X.mg y = none) (hvy : bootBuiltins y = some (.type T)) (ha : DE X a ma) (hny : y ≠ "__name__" := by decide) (hd : (y == ("__debug__" : Str)) = false := by decide) (he : starEach [a, .Name y p2] X.env = (false, eval a X.env) :: starEach [.Name y p2] X.env := by rfl) : DE X (.Call (.Name "isinstance" p) [a, .Name y p2] [] pos) (mIsX tb ma) := fun e =>
  PE.imp (pe_callB call_isXB hg hm hv (pa_cons (ha.tmp e) (pa_cons (pe_bltn (v := .ty T) hgy hmy hvy rfl hny hd) pa_nil) he) (he := he)) fun s H Q ⟨F, r, k, P, hm, hP⟩ => ⟨F, r, k, fun x r1 => onO (excOf x) fun q => onO (tb.lookup q.1) fun b => P (.val (.bool b)) r1, hm, fun x r1 v F1 H1 hx k1 q1 t1 => by
    obtain ⟨⟨C, fs⟩, e1, hx2⟩ := onO.ex hx
    obtain ⟨b, e2, hp⟩ := onO.ex hx2
    have e3 := excOf_of e1
    subst e3
    cases t1 with | ob t1 =>
    obtain ⟨ad, ev, hat⟩ := t1.excAt k1.sub
    obtain ⟨hk1, hk2⟩ := hk _ (lookup_mem e2)
    exact ⟨ad, _, b, T, hat, hk2, by rw [ev], hk1, hP _ r1 _ F1 H1 hp k1 q1 (.val (.bl _))⟩⟩
theorem all_nil {α : Type} {p : α → Prop} : ∀ x ∈ ([] : List α), p x := fun x h => by simp at h
theorem all_cons {α : Type} {p : α → Prop} {a : α} {l : List α} (h : p a) (t : ∀ x ∈ l, p x) : ∀ x ∈ a :: l, p x := fun x hx => by
  rcases List.mem_cons.mp hx with e | hx
  · subst e; exact h
  · exact t x hx
end DL
namespace DL
open PySem PySem.Spec L2 PyProof.Rows
end DL
namespace DL
open PySem L2 PyProof.Rows
end DL
namespace DL
open PySem L2 PyProof.Rows
end DL
namespace DL
open PySem L2 PyProof.Rows
theorem del_of {F : Hp} {p a : Addr} {o : HO} (e : F a = some o) (h : a ≠ p) : del F p a = some o := by rw [del_ne h]; exact e
theorem del_sub (F : Hp) (p : Addr) : Sub (del F p) F := fun a o e => by
  by_cases h : a = p
  · subst h; rw [del_same] at e; cases e
  · rw [del_ne h] at e; exact e
mutual
theorem Rp.unlist {K : Fg} {F : Hp} {p : Addr} {xs : List V} (hp : F p = some (.lst xs)) : ∀ {v : V} {d : D}, Rp K F v d → noList d = true → Rp K (del F p) v d
  | _, _, .non, _ => .non
  | _, _, .bl b, _ => .bl b
  | _, _, .int i, _ => .int i
  | _, _, .str x, _ => .str x
  | _, _, .lst _ _, h => by cases h
  | _, _, .tup (a := a) t r, h => by
    have ne : ∀ {o : HO}, F a = some o → (∀ ys, o ≠ .lst ys) → a ≠ p := fun e n z => by
      subst z; rw [hp] at e; cases e; exact n _ rfl
    refine .tup ?_ (RpA.unlist hp r h)
    rcases t with ⟨t1, t2⟩ | ⟨⟨o, t1, t3⟩ | t1, t2⟩
    · exact .inl ⟨del_of t1 (ne t1 fun ys z => by cases z), t2⟩
    · exact .inr ⟨.inl ⟨o, del_of t1 (ne t1 fun ys z => by cases z), t3⟩, t2⟩
    · exact .inr ⟨.inr t1, t2⟩
  | _, _, .dct (a := a) (ds := ds) t r e1 e2, h => by
    have ne : ∀ {o : HO}, F a = some o → (∀ ys, o ≠ .lst ys) → a ≠ p := fun e n z => by
      subst z; rw [hp] at e; cases e; exact n _ rfl
    have hv := noListK_vals (kvs := ds) h
    rw [e2] at hv
    refine .dct ?_ (RpA.unlist hp r hv) e1 e2
    rcases t with ⟨kvs, t1 | ⟨o, t1⟩, t2⟩ | ⟨kvs, t1 | ⟨o, t1⟩, t2⟩
    · exact .inl ⟨kvs, .inl (del_of t1 (ne t1 fun ys z => by cases z)), t2⟩
    · exact .inl ⟨kvs, .inr ⟨o, del_of t1 (ne t1 fun ys z => by cases z)⟩, t2⟩
    · exact .inr ⟨kvs, .inl (del_of t1 (ne t1 fun ys z => by cases z)), t2⟩
    · exact .inr ⟨kvs, .inr ⟨o, del_of t1 (ne t1 fun ys z => by cases z)⟩, t2⟩
theorem RpA.unlist {K : Fg} {F : Hp} {p : Addr} {xs : List V} (hp : F p = some (.lst xs)) : ∀ {vs : List V} {ds : List D}, RpA K F vs ds → noListA ds = true → RpA K (del F p) vs ds
  | _, _, .nil, _ => .nil
  | _, _, .cons a r, h => by
    rw [noListA, Bool.and_eq_true] at h
    exact .cons (a.unlist hp h.1) (r.unlist hp h.2)
end
/-- the list is lent, and only looked at; what is told holds no list -/
def viewCt (c : Ct) : Ct := fun as P => ∃ ds, as = [.box (.L ds)] ∧ c [.val (.list ds)] fun x _ => ∃ d, x = .val d ∧ noList d = true ∧ P (.val d) [.box (.L ds)]
theorem FnD.view {P : Program} {w : World} {K : Fg} {mg : Str → Option Value} {base : Heap} {k : Nat} {f : Addr} {fd : FuncData} {ps : List Str} {c : Ct} (F : FnD P w K mg base k f fd ps c) : FnD P w K mg base k f fd ps (fun as P => c as P ∨ viewCt c as P) := by
  refine ⟨fun A outer s H args us vs Q E hr hg he hb hv ⟨G, as, h1, h2, h3, h4, P, h5, h6⟩ => ?_⟩
  rcases h5 with h5 | ⟨ds, e, h5⟩
  · exact F.run A outer s H args us vs Q E hr hg he hb hv ⟨G, as, h1, h2, h3, h4, P, h5, h6⟩
  subst e
  cases h3 with | cons ha hn =>
  cases hn
  cases ha with | @box p o m hp hm hG =>
  cases hm with | @L xs _ hr2 =>
  have s1 : Sub G (upd G p (.lst xs)) := Sub.new hG
  have s2 : Sub (upd G p (.lst xs)) H := fun a o e => by
    by_cases z : a = p
    · subst z; rw [upd_same] at e; cases e; exact hp
    · rw [upd_ne z] at e; exact h2 a o e
  refine F.run A outer s H args us [.ref p] Q E hr hg he hb hv ⟨upd G p (.lst xs), [.val (.list ds)], h1, s2, .cons (.val (.lst (.inl upd_same) (hr2.mono s1))) .nil, ⟨fun i q m e => ?_, fun i j q m m' e => ?_⟩, _, h5, fun x as' v F' H' ⟨d, ex, hd, hPd⟩ did re => ?_⟩
  · match i, e with
    | 0, e => cases e
    | i + 1, e => simp at e
  · match i, e with
    | 0, e => cases e
    | i + 1, e => simp at e
  subst ex
  cases re with | val rv =>
  have fp : F' p = some (.lst xs) := did.sub _ _ upd_same
  have noGh : ∀ a, ¬ IsGh [Ar.val (.list ds)] a := fun a ⟨i, G, e, _⟩ => by
    match i, e with
    | 0, e => cases e
    | i + 1, e => simp at e
  have noGb : ∀ a, ¬ IsGh [Ar.box (.L ds)] a := fun a ⟨i, G, e, _⟩ => by
    match i, e with
    | 0, e => cases e
    | i + 1, e => simp at e
  have noBox : ∀ a, ¬ IsBox [Ar.val (.list ds)] [V.ref p] a := fun a ⟨i, m, e, _⟩ => by
    match i, e with
    | 0, e => cases e
    | i + 1, e => simp at e
  have s3 : Sub G (del F' p) := fun a o e => by
    have z : a ≠ p := fun z => by subst z; rw [hG] at e; cases e
    exact del_of (did.sub _ _ (s1 a o e)) z
  refine h6 (.val d) [.box (.L ds)] v (del F' p) H' hPd ?_ (.val (rv.unlist fp hd))
  exact {
    sub := s3
    subH := (del_sub F' p).trans did.subH
    new := fun a o e => by
      have z : a ≠ p := fun z => by subst z; rw [del_same] at e; cases e
      rw [del_ne z] at e
      rcases did.new a o e with q | q | ⟨i, G, q, _⟩ | q
      · rw [upd_ne z] at q; exact .inl q
      · exact .inr (.inl q)
      · match i, q with
        | 0, q => cases q
        | i + 1, q => simp at q
      · exact .inr (.inr (.inr q))
    keep := fun a o e _ _ => did.keep a o e (noBox a) (noGh a)
    dom := did.dom
    len := rfl
    box := fun i m q e1 e2 => by
      match i, e1, e2 with
      | 0, e1, e2 =>
        cases e1; cases e2
        exact ⟨.L ds, .lst xs, rfl, did.subH _ _ fp, .L (hr2.mono s3), del_same⟩
      | i + 1, e1, e2 => simp at e1
    gh := fun i G e => by
      match i, e with
      | 0, e => cases e
      | i + 1, e => simp at e
    gpF := fun _ _ => trivial }
end DL
namespace DL
open PySem L2 PyProof.Rows
/-- at sysModules stands a dict -/
structure SysK (K : Fg) : Prop where
  ex : ∃ o : Obj, K.lookup sysModules = some o ∧ o.cls = .type "dict"
section
variable {X : Cx} {pins : List (Addr × Obj)} {σ : L2.St} {H : Hp} {s : Shared}
theorem SysK.ne (S : SysK X.K) (I : Inv X pins σ H s) {a : Addr} {o : Obj} (e : s.heap.get? a = some o) (h : o.cls ≠ .type "dict") : a ≠ sysModules := fun z => by
  obtain ⟨o', e1, e2⟩ := S.ex
  have := I.kIn _ _ e1
  rw [z, this] at e
  cases e
  exact h e2
end
def reprOkS (d : D) : Bool := d.showable && decide (d.shown.length ≤ sizeLine) && decide (d.depth ≤ 64)
def sysB (K : Fg) : Bool := match K.lookup sysModules with
  | some o => decide (o.cls = .type "dict")
  | none => false
theorem sysB_ok {K : Fg} (h : sysB K = true) : SysK K := by
  unfold sysB at h
  split at h
  · rename_i o e
    exact ⟨_, e, of_decide_eq_true h⟩
  · cases h
abbrev AlZ : Type := AlY × Bool
def obsZ (fa : List He.Fa) (fn : List He.DefD) (cs : List (Str × D)) (ts : List (Str × Tab)) (xs : List XF) (K : Fg) : AlZ := (obsY fa fn cs ts xs K, sysB K)
def valZ (fn : List He.DefD) (ts : List (Str × Tab)) (w : World) : AlZ := (valY fn ts w, true)
def SaysZ (fa : List He.Fa) (fn : List He.DefD) (cs : List (Str × D)) (ts : List (Str × Tab)) (xs : List XF) (w : World) (K : Fg) : Prop := obsZ fa fn cs ts xs K = valZ fn ts w
section
variable {fa : List He.Fa} {fn : List He.DefD} {cs : List (Str × D)} {ts : List (Str × Tab)} {xs : List XF} {w : World} {K : Fg}
theorem SaysZ.y (c : SaysZ fa fn cs ts xs w K) : SaysY fa fn cs ts xs w K := congrArg (fun z : AlZ => z.1) c
theorem SaysZ.s (c : SaysZ fa fn cs ts xs w K) : SysK K := sysB_ok (congrArg (fun z : AlZ => z.2) c)
end
end DL
namespace DL
open PySem L2 PyProof.Rows
theorem upd_comm {H : Hp} {a b : Addr} {x y : HO} (h : a ≠ b) : upd (upd H a x) b y = upd (upd H b y) a x := by
  funext z
  by_cases q1 : z = a
  · subst q1; rw [upd_ne h, upd_same, upd_same]
  · by_cases q2 : z = b
    · subst q2; rw [upd_same, upd_ne q1, upd_same]
    · rw [upd_ne q2, upd_ne q1, upd_ne q1, upd_ne q2]
/-- how the heap is known behind the making: the code was among the table's, or is new there -/
inductive Made (H : Hp) (P : Addr) (q : Str) (pos : Pos) (ps : Array Value) : Addr → Hp → Prop
  | old {c : Addr} : codeAmong pos ps.toList = some (.ref c) → Made H P q pos ps c H
  | new {c : Addr} : H c = none → Made H P q pos ps c (upd (upd H P (.tbl (ps ++ #[rawInt pos.line, rawInt pos.col, .ref c]))) c (LamX.CodeO c q))
section
variable {X : Cx} {pins : List (Addr × Obj)} {σ : L2.St} {H : Hp} {s : Shared}
theorem lam_mk {c P : Addr} {params : Arguments} {body : Expr} {scope : Scope} {pos : Pos} {ps : Array Value} {E Q : Value → Shared → Prop} (I : L2.Inv X pins σ H s) (TB : LamX.TabB X.base X.mg c P) (hcode : X.env.code = .ref c)
    (hP : H P = some (.tbl ps)) (ht : TriplesOk ps.toList) (ha : ∀ (pos : Pos) (cv : Value), codeAmong pos ps.toList = some cv → ∃ c, cv = .ref c) (hdef : defaultsOf params X.env = ([], [])) (hfree : ∀ y ∈ scope.names, y.2 = .free → ∃ c, X.env.cells.lookup y.1 = some c)
    (h : ∀ (f c' : Addr) (pm ctv : Value) (H1 : Hp) (s' : Shared), L2.Inv X pins σ H1 s' → Made H P (X.env.qual ++ "<lambda>") pos ps c' H1 → s'.heap.get? f = some (PySem.W.kla_obj "<lambda>" (X.env.qual ++ "<lambda>") params body scope (cloFrom X.env.cells scope.names []) pm c' ctv) →
      H1 f = none → f ∉ frs X.stack → Q (.ref f) s') : wpAny (model X.prog X.w) X.A (eval (.Lambda params body scope pos) X.env) Q E s := by
  have bP : s.heap.BuiltinsAt X.mg P := TB.bm.keeps I.bk
  have hP2 : s.heap.get? P = some { cls := .none, data := .fields ps } := I.hok P _ hP
  have away : ∀ g, s.heap.objs.size ≤ g → g ∉ frs X.stack := fun g hg z => (List.mem_cons.mp (I.stkSub _ z)).elim (fun e => Nat.lt_irrefl _ (Nat.lt_of_lt_of_le (e ▸ I.lt) hg)) (I.nofs hg)
  refine PySem.W.kla_eval hdef ?_
  rcases hc : codeAmong pos ps.toList with _ | cv
  · refine PySem.W.kla_makeFunction (mg := X.mg) (c := c) (P := P) (ps := ps) (closure_ok hfree) I.ok.glob (I.mod.glob.keeps I.bk) hcode (TB.code.keeps I.bk) hP2 ht hc TB.gP bP fun c' ctv h' tk hx hge hlt hrec htb => ?_
    obtain ⟨_, oc, vs, t, e2, hoc, hd, hv⟩ := hrec; cases e2
    have hsz : s.heap.objs.size ≤ h'.objs.size := Nat.le_trans hge (Nat.le_of_lt hlt)
    have nC : H c' = none := I.hok.fresh hge
    have J := LamX.inv_table (t' := tk) (more := #[rawInt pos.line, rawInt pos.col, .ref c']) (h' := h'.push (PySem.W.kla_obj "<lambda>" (X.env.qual ++ "<lambda>") params body scope (cloFrom X.env.cells scope.names []) ((X.mg "__name__").getD .none) c' ctv)) I hP (fun b o hb e => Heap.get?_push_of_some _ (hx b o hb e)) (Heap.get?_push_of_some _ htb) hge ⟨oc, vs, t, Heap.get?_push_of_some _ hoc, hd, hv⟩
    refine h _ c' _ ctv _ _ J (.new nC) (Heap.get?_push_size _ rfl) ?_ (away _ hsz)
    rw [upd_ne (Nat.ne_of_gt hlt), upd_ne (Nat.ne_of_gt (Nat.lt_of_lt_of_le (Heap.lt_size hP2) hsz))]; exact I.hok.fresh hsz
  · obtain ⟨c', e⟩ := ha pos cv hc; subst e
    refine PySem.W.kla_makeFunctionHit (mg := X.mg) (c := c) (P := P) (ps := ps) (closure_ok hfree) I.ok.glob (I.mod.glob.keeps I.bk) hcode (TB.code.keeps I.bk) hP2 ht hc bP fun ctv h' tk hx hsz => ?_
    exact h _ c' _ ctv H _ (I.kept (t' := tk) fun b o e => Heap.get?_push_of_some _ (hx b o e)) (.old hc) (Heap.get?_push_size _ rfl) (I.hok.fresh hsz) (away _ hsz)
/-- a(), a being the lambda: in the frame of the def that got it -/
theorem pe_actD {CXg : CXT} {Eg : XK} {Ng : List Str} {qg : Str} {sg : Scope} {g f c' : Addr} {cdg pm ctv : Value} {params : Arguments} {body : Expr} {scope : Scope} {k i : Nat} {a : Str} {pn : List (Addr × Obj)} {xe : Value → Shared → Prop} {W : WX} {tb : XK → TE} {p1 p2 : Pos}
    (I : L2.Inv X pins σ H s) (L : LamX.LamS X.env.scope scope) (hf : s.heap.get? f = some (PySem.W.kla_obj "<lambda>" (X.env.qual ++ "<lambda>") params body scope (cloFrom X.env.cells scope.names []) pm c' ctv)) (hfn : H f = none) (hfr : f ∉ frs X.stack)
    (hbind : bindArgs (PySem.W.kla_fn "<lambda>" (X.env.qual ++ "<lambda>") params body scope (cloFrom X.env.cells scope.names []) pm (.ref c') ctv) ⟨[], []⟩ = pure []) (hgu : X.A.guards = some [])
    (tk : Takes ((cxOf CXg X.prog X.w X.K X.mg X.base Ng qg sg g cdg X.A X.stack s H Eg).tr pn xe) W) (hr : Rm (k + 1) (X.A.deeper (envOfC qg sg s.heap.objs.size g cdg)))
    (hbody : ∀ (E : XK) (A : Around) (outer : List Env) (s : Shared) (H : Hp), Rm k (A.deeper (LamX.lamEnv X scope s.heap.objs.size f c')) → A.guards = some [] → PE (LamX.lamCx X A outer s H E scope f c') body (tb E))
    (hN : Ng[i]? = some a) (hv : Vis sg a) (hd : (a == ("__debug__" : Str)) = false := by decide) (hcd : (a == ("__classdict__" : Str)) = false := by decide) :
    PE ((cxOf CXg X.prog X.w X.K X.mg X.base Ng qg sg g cdg X.A X.stack s H Eg).tr pn xe) (.Call (.Name a p1) [] [] p2) (fun σZ HZ Q => σZ[i]? = some (some (.ref f)) ∧ HZ c' = some (LamX.CodeO c' (X.env.qual ++ "<lambda>")) ∧ tb (fun cls d H' => W cls d σZ H') σ HZ Q) := by
  refine ⟨fun pinsZ sZ σZ HZ Q IZ ⟨hs, hc, ht⟩ => wpAny_Call_Name_kw (thn ((pe_var (pos := p1) (i := i) hN hv hd hcd).run pinsZ sZ σZ HZ (fun v H1 => v = .ref f ∧ H1 = HZ) IZ ⟨.ref f, hs, rfl, rfl⟩) fun u s1 ⟨v, H1, I1, r1, ev, eH⟩ => ?_)⟩
  subst ev eH
  obtain rfl : u = Value.ref f := r1
  have of1 : s1.heap.get? f = some (PySem.W.kla_obj "<lambda>" (X.env.qual ++ "<lambda>") params body scope (cloFrom X.env.cells scope.names []) pm c' ctv) := I1.base.keep f _ hf hfn hfr fun z => nomatch (show f ∈ ([] : List Addr) from z)
  obtain ⟨⟨oc, vs, t, hoc, hdc, hvc⟩, _, _⟩ := I1.hok c' _ hc
  refine PySem.W.callWith_F0 ⟨_, _, _, _, of1⟩ (wpAny_call (codeAny_mono (?_ : codeAny (model X.prog X.w) (X.A.deeper (envOfC qg sg s.heap.objs.size g cdg)) (.call (.ref f) ⟨[], []⟩) (CR (L2.CX X.prog X.w) (envOfC qg sg s.heap.objs.size g cdg :: X.stack) X.prog X.w H1 s1 Q fun cls d H' => W cls d σZ H') s1) fun y s' hq => ?_))
  · refine PySem.W.kla_callFunE hr.depth of1 rfl L.co L.gen rfl ⟨c', oc, vs, t, rfl, hoc, hdc, hvc⟩ ?_
    rw [hbind]
    refine wpAny_pure (wpAny_newFunctionEnv (fun y hy => (L.own y hy).2) (fun y hy => absurd hy (by simp)) (fun h₁ hns hsb => ⟨I1.nolimit.fresh _ hsb, ?_⟩) L.kind)
    have kp : ∀ b o, s1.heap.get? b = some o → h₁.get? b = some o := fun b o e => hsb.extBut b o (Nat.ne_of_lt (Heap.lt_size e)) (Heap.get?_push_of_some _ e)
    have J := LamX.lam_start2 (tk := s1.toks + ([] : List (Str × Value)).length) (E := fun cls d H' => W cls d σZ H') (c' := c') (f := f) I L I1.env0 hr.hd I1.base hns kp
    exact PySem.W.kla_codeExpr (wpAny_mono ((hbody _ _ _ s1 H1 (hr.deeper _) hgu).run [] _ _ H1 Q J ht) (fun v s' ⟨w', H', J', rv, q⟩ => ⟨w', H', J'.os, J'.bare, J'.base, J'.hok, rv, q⟩) fun e s' hq => hq)
  · rcases y with e | fl
    · exact tk _ _ (XE.of_call I1 (fun _ _ _ z => z) hq)
    · rcases fl with _ | _ | _ | u
      all_goals first | exact I1.after hq | exact False.elim hq
end
end DL
namespace DL
open PySem L2 PyProof.Rows
/-- what a lambda does: it tells one of some data, or raises one of some errors -/
inductive LO where
  | ret (S : D → Prop) | exc (S : Str → List (Str × D) → Prop)
def LTo (K : Fg) (out : LO) (F1 HZ : Hp) (W : Value → Option Addr → Hp → Prop) (Q : VK) : Prop := match out with
  | .ret S => ∀ v F2 H2 d, S d → Did K F1 HZ [] [] F2 H2 [] → Rp K F2 v d → Q v H2
  | .exc S => ∀ C fs cls dx F2 H2, S C fs → Did K F1 HZ [] [] F2 H2 [] → XdOk K F2 C fs cls dx → W cls dx H2
/-- a(), a being the lambda L, in the frame Z -/
def ActD (Z : Cx) (L : Lam) (out : LO) : Prop := ∀ (pn : List (Addr × Obj)) (xe : Value → Shared → Prop) (W : WX) (i : Nat) (a : Str) (p1 p2 : Pos), Takes (Z.tr pn xe) W → Z.N[i]? = some a → Vis Z.env.scope a → (a == ("__debug__" : Str)) = false → (a == ("__classdict__" : Str)) = false →
  PE (Z.tr pn xe) (.Call (.Name a p1) [] [] p2) (fun σZ HZ Q => σZ[i]? = some (some (.ref L.f)) ∧ HZ L.c = some (LamX.CodeO L.c L.q) ∧ ∃ F1, Sub F1 HZ ∧ CapOk Z.K F1 L ∧ LTo Z.K out F1 HZ (fun cls d H' => W cls d σZ H') Q)
def mHole (i : Nat) (L : Lam) (out : LO) : ME := fun r P => r[i]? = some (some (.ob (.lam L))) ∧ match out with
  | .ret S => ∀ d, S d → P (.val d) r
  | .exc _ => False
def xHole (i : Nat) (L : Lam) (out : LO) : MX := fun r P => r[i]? = some (some (.ob (.lam L))) ∧ match out with
  | .ret _ => False
  | .exc S => ∀ C fs, S C fs → P C fs r
theorem Ok.did0 {K : Fg} {e : En} {F F2 H H2 : Hp} {r : Rho} {s : L2.St} (k : Ok K e F r s H) (d : Did K F H [] [] F2 H2 []) : Ok K e F2 r s H2 := call_ok (xs := []) (as := []) (as' := []) .nil k rfl rfl d rfl
section
variable {Z : Cx} {L : Lam} {out : LO} {i : Nat} {a : Str} {p1 p2 : Pos} {pn : List (Addr × Obj)} {xe : Value → Shared → Prop}
theorem de_hole (act : ActD Z L out) (hN : Z.N[i]? = some a) (hv : Vis Z.env.scope a) (hd : (a == ("__debug__" : Str)) = false := by decide) (hcd : (a == ("__classdict__" : Str)) = false := by decide) : DE (Z.tr pn xe).nox (.Call (.Name a p1) [] [] p2) (mHole i L out) := fun e =>
  PE.imp (act pn (fun _ _ => False) (fun _ _ _ _ => False) i a p1 p2 LamX.takes0 hN hv hd hcd) fun s H Q ⟨F, r, k, P, ⟨hs, hm⟩, hP⟩ => by
    obtain ⟨v, h1, h2⟩ := k.ob i _ hs
    cases h2 with
    | lam hc cap =>
      refine ⟨h1, k.sub _ _ hc, F, k.sub, cap, ?_⟩
      cases out with
      | exc S => exact hm.elim
      | ret S => exact fun v F2 H2 d hd did rp => hP _ r v F2 H2 (hm d hd) (k.did0 did) did.sub (.val rp)
theorem ex_hole (act : ActD Z L out) (hN : Z.N[i]? = some a) (hv : Vis Z.env.scope a) (hd : (a == ("__debug__" : Str)) = false := by decide) (hcd : (a == ("__classdict__" : Str)) = false := by decide) : EX (Z.tr pn xe) (.Call (.Name a p1) [] [] p2) (xHole i L out) := fun e W tk =>
  PE.imp (act pn xe W i a p1 p2 tk hN hv hd hcd) fun s H Q ⟨F, r, k, P, ⟨hs, hm⟩, hP⟩ => by
    obtain ⟨v, h1, h2⟩ := k.ob i _ hs
    cases h2 with
    | lam hc cap =>
      refine ⟨h1, k.sub _ _ hc, F, k.sub, cap, ?_⟩
      cases out with
      | ret S => exact hm.elim
      | exc S => exact fun C fs cls dx F2 H2 hS did xd => hP C fs r s F2 H2 cls dx (hm C fs hS) (k.did0 did) did.sub xd
end
def LamAt (P : Program) (w : World) (K : Fg) (mg : Str → Option Value) (base : Heap) (A : Around) (outer : List Env) (s : Shared) (H : Hp) (kl : Nat) (L : Lam) (out : LO) : Prop := ∀ (N : List Str) (qg : Str) (sg : Scope) (g : Addr) (cdg : Value) (Eg : XK),
  Rm (kl + 1) (A.deeper (envOfC qg sg s.heap.objs.size g cdg)) → ActD (cxOf CX0 P w K mg base N qg sg g cdg A outer s H Eg) L out
def spL (P : Program) (w : World) (K : Fg) (mg : Str → Option Value) (base : Heap) (A : Around) (outer : List Env) (s : Shared) (n : Nat) (c : Lam → LO → Ct) (vs : List V) (H : Hp) (Q : VK) : Prop :=
  ∃ L out kl, Rm (kl + 2) A ∧ LamAt P w K mg base A outer s H kl L out ∧ spD K n (c L out) vs H Q E0
structure FnL (P : Program) (w : World) (K : Fg) (mg : Str → Option Value) (base : Heap) (k : Nat) (f : Addr) (fd : FuncData) (ps : List Str) (c : Lam → LO → Ct) : Prop where
  run : ∀ (A : Around) (outer : List Env) (s : Shared) (H : Hp) (args : Args) (us : List Value) (vs : List V) (Q : VK), Rm k A → A.guards = some [] → Env0 P w K mg base A outer s H → BindsTo s fd args (ps.zip us) → Vals vs us → spL P w K mg base A outer s ps.length c vs H Q →
    codeAny (model P w) A (.call (.ref f) args) (CR CX0 outer P w H s Q E0) s
theorem FnL.mono {P : Program} {w : World} {K : Fg} {mg : Str → Option Value} {base : Heap} {j k : Nat} {f : Addr} {fd : FuncData} {ps : List Str} {c : Lam → LO → Ct} (F : FnL P w K mg base j f fd ps c) (h : j ≤ k) : FnL P w K mg base k f fd ps c :=
  ⟨fun A outer s H args us vs Q hr => F.run A outer s H args us vs Q (hr.mono h)⟩
theorem FnL.imp {P : Program} {w : World} {K : Fg} {mg : Str → Option Value} {base : Heap} {k : Nat} {f : Addr} {fd : FuncData} {ps : List Str} {c c' : Lam → LO → Ct} (F : FnL P w K mg base k f fd ps c) (h : ∀ L out as P, c' L out as P → c L out as P) : FnL P w K mg base k f fd ps c' :=
  ⟨fun A outer s H args us vs Q hr hg he hb hv ⟨L, out, kl, h1, h2, F', as, e1, e2, e3, e4, P, e5, e6⟩ => F.run A outer s H args us vs Q hr hg he hb hv ⟨L, out, kl, h1, h2, F', as, e1, e2, e3, e4, P, h _ _ _ _ e5, e6⟩⟩
section
variable {P : Program} {w : World} {K : Fg} {mg : Str → Option Value} {base : Heap} {x qual : Str} {params : Arguments} {body : List Stmt} {scope : Scope} {dvs : List V} {kws : List (Str × V)} {f : Addr} {fd : FuncData}
theorem fnl_def {N ps : List Str} {k : Nat} {m : Lam → LO → MS} (F : FunD K x qual params body scope dvs kws f fd) (S : FnScope N ps scope)
    (hbody : ∀ (L : Lam) (out : LO) (cdv : Value) (A : Around) (outer : List Env) (s : Shared) (H : Hp) (E : XK), Rm k (A.deeper (envOfC qual scope s.heap.objs.size f cdv)) → A.guards = some [] → ActD (cxOf CX0 P w K mg base N qual scope f cdv A outer s H E) L out → DSs (cxOf CX0 P w K mg base N qual scope f cdv A outer s H E).nox body (m L out)) :
    FnL P w K mg base (k + 1) f fd ps (fun L out => ctOf N.length (m L out)) := by
  obtain ⟨oc, od, dV, kV, doc, pm, an, cdv, ct, osl, rfl, lk, hcd, _, _⟩ := F.ex
  refine ⟨fun A outer s H args us vs Q hr hgu e0 hb r ⟨L, out, kl, hrl, act, F, as, hl, hs, ha, hap, Pp, hc, hP⟩ => ?_⟩
  have KX : K.In s.heap := e0.mod.kin.keeps fun b o e => (e0.bs b o e).1
  have lim : s.heap.NoLimit := e0.mod.nolimit.keeps fun b o e => (e0.bs b o e).1
  have hkind : ∀ y ∈ ps.zip us, scope.names.lookup y.1 = some .local ∨ (scope.names.lookup y.1 = some .cell ∧ ((cellsFrom (s.heap.objs.size + 1) scope.names []).lookup y.1).isSome = true) := by
    rintro ⟨n, v⟩ hy
    rcases S.par n (List.of_mem_zip hy).1 with q | q
    · exact .inl q
    · exact .inr ⟨q, PySem.W.cellsFrom_some _ _ _ (.inl q)⟩
  refine codeAny_call_function hr.depth (KX _ _ lk) rfl S.co S.gen rfl (PySem.W.codeRec_of KX hcd) (hb _ _ _ _ (wpAny_newFunctionEnv_cells S.kind hkind ?_))
  rintro env rfl s1 x
  refine ⟨lim.keeps x.toInCall.keep, codeAny_func ?_⟩
  have I : L2.Inv (cxOf CX0 P w K mg base N qual scope f cdv A outer s H E0) [] (L2.start N vs) H s1 := inv_start S hr.hd e0 hl r x
  obtain ⟨hn, hc⟩ := rqB.ex hc
  have ok : Ok K (enOf F H as vs) F (startR N.length as) (L2.start N vs) H := Ok.start (Nat.le_of_ble_eq_true hn) hs ha hap
  have hit : TSt K (enOf F H as vs) (m L out) { nx := fun _ H' => Q .non H', rt := Q } (L2.start N vs) H := by
    refine ⟨F, _, ok, _, hc.ex, ⟨?_, ?_, fun _ _ _ _ z => z.elim, fun _ _ _ _ z => z.elim⟩⟩
    · intro r' s' F' H' hx k' q'
      obtain ⟨as', ea, hp⟩ := onO.ex hx
      exact hP _ as' _ F' H' hp (k'.did hs ha ea) (.val .non)
    · intro y r' v s' F' H' hx k' q' t
      obtain ⟨y', er, hx2⟩ := onO.ex hx
      obtain ⟨as', ea, hp⟩ := onO.ex hx2
      exact hP _ as' _ F' H' hp (k'.did hs ha ea) (t.ret k' er)
  have run := ((hbody L out cdv A outer s H E0 (hr.deeper _) hgu (act N qual scope f cdv E0 (hrl.deeper _)) (enOf F H as vs)).nox).run [] s1 (L2.start N vs) H _ I hit
  refine wpAny_mono run (fun fl s' z => ?_) fun _ _ z => z
  cases fl with
  | ret u =>
    obtain ⟨v, σ', H', J, rv, q⟩ := z
    exact ⟨v, H', J.os, J.bare, J.base, J.hok, rv, q⟩
  | next =>
    obtain ⟨σ', H', J, q⟩ := z
    exact ⟨.non, H', J.os, J.bare, J.base, J.hok, rfl, q⟩
  | brk => obtain ⟨_, _, _, q⟩ := z; exact q.elim
  | cont => obtain ⟨_, _, _, q⟩ := z; exact q.elim
end
/-- the module's name x is a def that takes a lambda -/
structure LamD (P : Program) (w : World) (K : Fg) (mg : Str → Option Value) (base : Heap) (k : Nat) (x : Str) (c : Lam → LO → Ct) : Prop where
  ex : ∃ f fd ps, mg x = some (.ref f) ∧ PySem.W.keepIn K (.ref f) = true ∧ FnL P w K mg base k f fd ps c ∧ Binds K fd ps [] ∧ ps.length = 1
/-- the making of lambdas in the frame of code: its code object, the table -/
structure LamM (K : Fg) (mg : Str → Option Value) (base : Heap) (code : Value) (tp : Addr) : Prop where
  ex : ∃ c, code = .ref c ∧ LamX.TabB base mg c tp
def capD (r : Rho) : List (Option D) := r.map fun c => match c with
  | some (.val d) => some d
  | _ => none
def capR (ds : List (Option D)) : Rho := ds.map fun d => d.map Ce.val
theorem capD_get {r : Rho} {i : Nat} {d : D} (h : (capD r)[i]? = some (some d)) : r[i]? = some (some (.val d)) := by
  unfold capD at h
  rw [List.getElem?_map] at h
  cases q : r[i]? with
  | none => rw [q] at h; cases h
  | some c =>
    rw [q] at h
    simp only [Option.map_some, Option.some.injEq] at h
    split at h
    · cases h; rfl
    · cases h
theorem capR_get {ds : List (Option D)} {i : Nat} {c : Ce} (h : (capR ds)[i]? = some (some c)) : ∃ d, c = .val d ∧ ds[i]? = some (some d) := by
  unfold capR at h
  rw [List.getElem?_map] at h
  cases q : ds[i]? with
  | none => rw [q] at h; cases h
  | some o =>
    rw [q] at h
    cases o with
    | none => cases h
    | some d => cases h; exact ⟨d, rfl, rfl⟩
/-- the lambda's frame over data alone: all that stands stays -/
def enCap (F H : Hp) : En := ⟨F, H, fun a => H a ≠ none, fun _ => none, fun _ => False⟩
theorem Ok.cap {K : Fg} {F H : Hp} {L : Lam} (h : CapOk K F L) (hs : Sub F H) : Ok K (enCap F H) F (capR L.ds) L.st H where
  len := by unfold capR; rw [List.length_map]; exact h.1
  sub := hs
  f0 := Sub.refl F
  prot := Sub.refl H
  new := fun a o z => .inl z
  dom := fun a z => z
  slot := fun i d z => by
    obtain ⟨d', e, q⟩ := capR_get z
    cases e; exact h.2 i d q
  box := fun i b m z => by obtain ⟨_, e, _⟩ := capR_get z; cases e
  ob := fun i o z => by obtain ⟨_, e, _⟩ := capR_get z; cases e
  sep := fun i j p b m b' m' z => by obtain ⟨_, e, _⟩ := capR_get z; cases e
  adr := fun i n a z => by obtain ⟨_, e, _⟩ := capR_get z; cases e
  gh := fun i G z => by obtain ⟨_, e, _⟩ := capR_get z; cases e
  gpF := fun p z => z.elim
theorem Ok.capDid {K : Fg} {F H F' H' : Hp} {r : Rho} {s : L2.St} (k : Ok K (enCap F H) F' r s H') : Did K F H [] [] F' H' [] where
  sub := k.f0
  subH := k.sub
  new := fun a o z => (k.new a o z).imp id (Or.imp id .inr)
  keep := fun a o z _ _ => k.prot a o z
  dom := fun a z => k.dom a z
  len := rfl
  box := fun i m p z => by simp at z
  gh := fun i G z => by simp at z
  gpF := fun _ _ => trivial
def valOf : R → Option D
  | .val d => some d
  | _ => none
theorem valOf_of {x : R} {d : D} (h : valOf x = some d) : x = .val d := by
  unfold valOf at h
  split at h
  · cases h; rfl
  · cases h
def LOk (mb : ME) (mx : MX) (ds : List (Option D)) : LO → Prop
  | .ret S => mb (capR ds) fun x _ => onO (valOf x.tmp) S
  | .exc S => mx (capR ds) fun C fs _ => S C fs
/-- the call: here a proof speaks -/
structure Lmk (c : Lam → LO → Ct) (mb : ME) (mx : MX) (ds : List (Option D)) (P : R → Prop) : Prop where
  h : ∃ out, LOk mb mx ds out ∧ ∀ L : Lam, L.ds = ds → c L out [.ob (.lam L)] fun x _ => P x
def mLam (g n : Nat) (tp : Addr) (q : Str) (c : Lam → LO → Ct) (mb : ME) (mx : MX) : ME := fun r P => onO (ghAt r g) fun G => onP (G[n]?) fun a nd => (a = tp ∧ nd = .tbl q) ∧ Lmk c mb mx (capD r) fun x => P x r
section
variable {K : Fg} {e : En} {F : Hp} {r : Rho} {s : L2.St} {H : Hp}
theorem setG_self {g n : Nat} {G : Gh} {a : Addr} {nd : Nd} (hg : r[g]? = some (some (.gh G))) (hn : G[n]? = some (a, nd)) : r.set g (some (.gh (G.set n (a, nd)))) = r := by
  have e1 : G.set n (a, nd) = G := by
    refine List.ext_getElem? fun j => ?_
    by_cases q : n = j
    · subst q; rw [List.getElem?_set_self (List.getElem?_eq_some_iff.mp hn).1, hn]
    · rw [List.getElem?_set_ne q]
  rw [e1]
  refine List.ext_getElem? fun j => ?_
  by_cases q : g = j
  · subst q; rw [List.getElem?_set_self (List.getElem?_eq_some_iff.mp hg).1, hg]
  · rw [List.getElem?_set_ne q]
/-- the state behind the making -/
theorem Ok.made {g n : Nat} {G : Gh} {tp c : Addr} {q : Str} {pos : Pos} {ps : Array Value} {H1 : Hp} (k : Ok K e F r s H) (hg : r[g]? = some (some (.gh G))) (hn : G[n]? = some (tp, .tbl q)) (hP : H tp = some (.tbl ps))
    (ht : TriplesOk ps.toList) (ha : ∀ (pos : Pos) (cv : Value), codeAmong pos ps.toList = some cv → ∃ c, cv = .ref c ∧ F c = some (LamX.CodeO c q)) (m : Made H tp q pos ps c H1) : ∃ F1, Ok K e F1 r s H1 ∧ Sub F F1 ∧ F1 c = some (LamX.CodeO c q) := by
  cases m with
  | old h =>
    obtain ⟨c', e1, e2⟩ := ha _ _ h
    cases e1
    exact ⟨F, k, Sub.refl F, e2⟩
  | new h =>
    have ne : c ≠ tp := fun z => by rw [z, hP] at h; cases h
    have fr := k.free h
    have k1 : Ok K e (upd F c (LamX.CodeO c q)) r s (upd H c (LamX.CodeO c q)) := k.lay h
    have eL : (ps ++ #[rawInt pos.line, rawInt pos.col, .ref c]).toList = ps.toList ++ [rawInt pos.line, rawInt pos.col, .ref c] := by simp
    have k2 := k1.nodeWrite (nd' := .tbl q) (o := .tbl (ps ++ #[rawInt pos.line, rawInt pos.col, .ref c])) hg hn (by intro z; cases z) rfl (.tbl (by rw [eL]; exact PySem.TriplesOk_snoc _ _ _ _ ht) fun p cv hc => by
      rw [eL] at hc
      rcases LamX.among_app _ ht hc with z | z
      · obtain ⟨c0, e1, e2⟩ := ha p cv z
        exact ⟨c0, e1, Sub.new fr.1 _ _ e2⟩
      · exact ⟨c, z, upd_same⟩) fun C dx fs z => by cases z
    rw [setG_self hg hn, upd_comm ne] at k2
    exact ⟨_, k2, Sub.new fr.1, upd_same⟩
end
theorem de_lamcall {X : Cx} {x : Str} {tp : Addr} {q : Str} {g n k kl : Nat} {c : Lam → LO → Ct} {mb : ME} {mx : MX} {params : Arguments} {body : Expr} {scope : Scope} {p lpos pos : Pos} (h : LamD X.prog X.w X.K X.mg X.base k x c) (M : LamM X.K X.mg X.base X.env.code tp) (hq : X.env.qual ++ "<lambda>" = q)
    (hr : Rm k X.A) (hrl : Rm (kl + 2) X.A) (hgu : X.A.guards = some []) (hg : Gl X x) (LS : LamX.LamS X.env.scope scope) (hdef : defaultsOf params X.env = ([], []))
    (hbind : ∀ (q : Str) (cl : List (Str × Addr)) (pm cv ctv : Value), bindArgs (PySem.W.kla_fn "<lambda>" q params body scope cl pm cv ctv) ⟨[], []⟩ = pure [])
    (hb : ∀ (f c' : Addr) (E : XK) (A : Around) (outer : List Env) (s : Shared) (H : Hp), Rm kl (A.deeper (LamX.lamEnv X scope s.heap.objs.size f c')) → A.guards = some [] → DE (LamX.lamCx X A outer s H E scope f c') body mb)
    (hx : ∀ (f c' : Addr) (E : XK) (A : Around) (outer : List Env) (s : Shared) (H : Hp), Rm kl (A.deeper (LamX.lamEnv X scope s.heap.objs.size f c')) → A.guards = some [] → EX (LamX.lamCx X A outer s H E scope f c') body mx)
    (hdb : (x == ("__debug__" : Str)) = false := by decide) : DE X (.Call (.Name x p) [.Lambda params body scope lpos] [] pos) (mLam g n tp q c mb mx) := fun e => by
  obtain ⟨fl, fd, pl, hm, hk, FL, hbd, hpl⟩ := h.ex
  obtain ⟨cc, hcode, TB⟩ := M.ex
  subst hq
  refine ⟨fun pins s σ H Q I ⟨F, r, k0, P, hw, hP⟩ => ?_⟩
  obtain ⟨G, eg, hw1⟩ := onO.ex hw
  obtain ⟨a, nd, en, ⟨ea, ed⟩, hw2⟩ := onP.ex hw1
  subst ea ed
  obtain ⟨out, ho, hc⟩ := hw2.h
  obtain ⟨o, o1, o2, _⟩ := k0.node (ghAt_of eg) en (by intro z; cases z)
  cases o2 with | @tbl ps _ ht ha =>
  refine wpAny_Call_Name_kw (ld_glob I hg hm (PySem.W.callWith_K (h₀ := X.base) I.ok.mod.kin hk ?_ (by rfl) (by rfl)) hdb)
  show wpAny _ _ (spliced ((false, eval (.Lambda params body scope lpos) X.env) :: backTo pos (starEach [] X.env))) _ _ s
  refine Calls.spliced_cons (lam_mk I TB hcode o1 ht (fun p cv z => (ha p cv z).imp fun _ z => z.1) hdef (LS.has I.ok) fun f c' pm ctv H1 s1 I1 md hf hfn hfr => Calls.spliced_nil ⟨I1.kIn, ?_⟩)
  obtain ⟨F1, k1, q1, hF1⟩ := k0.made (ghAt_of eg) en o1 ht ha md
  let L : Lam := ⟨f, c', X.env.qual ++ "<lambda>", σ, capD r⟩
  have cap : CapOk X.K F1 L := ⟨by show (capD r).length = σ.length; unfold capD; rw [List.length_map]; exact k1.len, fun i d z => k1.slot i d (capD_get z)⟩
  have act : LamAt X.prog X.w X.K X.mg X.base X.A X.stack s1 H1 kl L out := fun N qg sg gg cdg Eg hrm pn xe W i an p1 p2 tk hN hv hd hcd => by
    cases out with
    | ret S =>
      refine PE.imp (pe_actD (tb := fun E s H Q => ∃ e, Tt X.K e (mTmp mb) s H Q) I1 LS hf hfn hfr (hbind _ _ _ _ _) hgu tk hrm (fun E A outer s H hr hg => ⟨fun pins s σ H Q I ⟨e, h⟩ => ((hb f c' E A outer _ _ hr hg).tmp e).run pins s σ H Q I h⟩) hN hv hd hcd) ?_
      rintro σZ HZ Q ⟨h1, h2, F2, h3, h4, h5⟩
      refine ⟨h1, h2, enCap F2 HZ, F2, _, Ok.cap h4 h3, fun x _ => onO (valOf x) S, ho, fun y r' v F' H' hy k' s' t => ?_⟩
      obtain ⟨d, e, hd⟩ := onO.ex hy
      have e := valOf_of e
      subst e
      cases t with | val t => exact h5 v F' H' d hd k'.capDid t
    | exc S =>
      refine PE.imp (pe_actD (tb := fun E s H Q => ∃ e, TX X.K e mx (fun cls d _ H => E cls d H) s H) I1 LS hf hfn hfr (hbind _ _ _ _ _) hgu tk hrm (fun E A outer s H hr hg => ⟨fun pins s σ H Q I ⟨e, h⟩ => (hx f c' E A outer _ _ hr hg e _ (takes_of rfl rfl rfl rfl)).run pins s σ H Q I h⟩) hN hv hd hcd) ?_
      rintro σZ HZ Q ⟨h1, h2, F2, h3, h4, h5⟩
      refine ⟨h1, h2, enCap F2 HZ, F2, _, Ok.cap h4 h3, fun C fs _ => S C fs, ho, fun C fs r' s' F' H' cls d hy k' q' xd => h5 C fs cls d F' H' hy k'.capDid xd⟩
  have ob : ObOk X.K F1 (.ref f) (.lam L) := .lam (L := L) hF1 cap
  have hl1 : [V.ref f].length = pl.length := by rw [hpl]; rfl
  have run := FL.run X.A X.stack s1 H1 ⟨[.ref f], []⟩ [.ref f] [.ref f] Q hr hgu I1.env0 (hbd s1 [.ref f] I1.kIn (by rw [hpl]; rfl)) (.cons rfl .nil) ⟨L, out, kl, hrl, act, F1, [.ob (.lam L)], hl1, k1.sub, .cons (.ob ob) .nil, ⟨fun i p m e1 _ _ => ?_, fun i j p m m' e1 e2 _ _ => ?_⟩, _, hc L rfl, fun x as' v F' H' hx did re => ?_⟩
  · refine wpAny_call (codeAny_mono run fun y s' hq => ?_)
    rcases y with e | fl
    · exact (show False from hq).elim
    · rcases fl with _ | _ | _ | u
      all_goals first | exact I1.after hq | exact False.elim hq
  · cases i with
    | zero => simp at e1
    | succ i => simp at e1
  · cases i with
    | zero => simp at e1
    | succ i => simp at e1
  · have hb2 : backArs r [.ob (.lam L)] as' = some r := by
      have := did.len
      match as', this with
      | [_], _ => rfl
    exact hP x r v F' H' hx (call_ok (xs := [.ob (.lam L)]) (.cons (.ob ob) .nil) k1 rfl rfl did hb2) (q1.trans did.sub) (call_rr (xs := [.ob (.lam L)]) (vs := [.ref f]) (as := [.ob (.lam L)]) k1 rfl hb2 re)
end DL
namespace DL
open PySem L2 PyProof.Rows
def tbA (K : Fg) (x : Str) : Addr := match PySem.W.tabIn K x with
  | some (_, P) => P
  | none => 0
/-- the tables of the defs ls stand at base -/
def TbsAt (K : Fg) (mg : Str → Option Value) (base : Heap) (ls : List Str) : Prop := ∀ x ∈ ls, ∃ c P, PySem.W.tabIn K x = some (c, P) ∧ LamX.TabB base mg c P
theorem tabIn_code {K : Fg} {x : Str} {c P : Addr} (h : PySem.W.tabIn K x = some (c, P)) : ∀ {oc : Value} {od : Option Addr} {fd : FuncData} {osl : Array (Option Value)}, K.lookup (He.ga K x) = some ⟨oc, od, .func fd, osl⟩ → fd.code = .ref c := by
  intro oc od fd osl lk
  unfold PySem.W.tabIn at h
  unfold He.ga at lk
  split at h
  · rename_i f e
    rw [e] at lk
    simp only at lk
    rw [lk] at h
    simp only at h
    split at h
    · rename_i c' ec
      split at h
      · split at h
        · cases h; exact ec
        · cases h
      · cases h
    · cases h
  · cases h
theorem lamM_of {K : Fg} {mg : Str → Option Value} {base : Heap} {ls : List Str} {x : Str} (tb : TbsAt K mg base ls) (hx : x ∈ ls) {oc : Value} {od : Option Addr} {fd : FuncData} {osl : Array (Option Value)} (lk : K.lookup (He.ga K x) = some ⟨oc, od, .func fd, osl⟩) : LamM K mg base fd.code (tbA K x) := by
  obtain ⟨c, P, e, t⟩ := tb x hx
  refine ⟨c, tabIn_code e lk, ?_⟩
  unfold tbA
  rw [e]; exact t
section
variable {P : Program} {w : World} {K : Fg} {mg : Str → Option Value} {base : Heap} {x qual : Str} {params : Arguments} {body : List Stmt} {scope : Scope} {dvs : List V} {kws : List (Str × V)} {fd : FuncData}
theorem fnd_defM {N ps : List Str} {k : Nat} {m : MS} {ls : List Str} {y : Str} (tb : TbsAt K mg base ls) (hy : y ∈ ls) (F : FunD K x qual params body scope dvs kws (He.ga K y) fd) (S : FnScope N ps scope)
    (hbody : ∀ (cdv : Value) (A : Around) (outer : List Env) (s : Shared) (H : Hp) (E : XK), Rm k (A.deeper (envOfC qual scope s.heap.objs.size (He.ga K y) cdv)) → A.guards = some [] → LamM K mg base cdv (tbA K y) → DSs (cxOf CX0 P w K mg base N qual scope (He.ga K y) cdv A outer s H E).nox body m) : FnD P w K mg base (k + 1) (He.ga K y) fd ps (ctOf N.length m) := by
  obtain ⟨oc, od, dV, kV, doc, pm, an, cdv, ct, osl, rfl, lk, hcd, _, _⟩ := F.ex
  exact fnd_of lk hcd S fun A outer s H E hr hg => hbody cdv A outer s H E hr hg (lamM_of (fd := PySem.W.fnOf x qual params body scope dV kV doc pm an cdv ct) tb hy lk)
theorem LamD.of {k : Nat} {y : Str} {c : Lam → LO → Ct} {f : Addr} {ps : List Str} (hm : mg y = some (.ref f)) (hk : PySem.W.keepIn K (.ref f) = true) (F : FnL P w K mg base k f fd ps c) (hb : Binds K fd ps []) (hl : ps.length = 1 := by rfl) : LamD P w K mg base k y c := ⟨⟨f, fd, ps, hm, hk, F, hb, hl⟩⟩
end
/-- the nodes of the tables -/
def ghT (K : Fg) (ls : List (Str × Str)) : Gh := ls.map fun p => (tbA K p.1, .tbl p.2)
/-- what the head tells of the tables, at its heap h -/
structure TabsH (K : Fg) (h : Heap) (ls : List (Str × Str)) : Prop where
  at' : ∀ x ∈ ls, ∃ c P, PySem.W.tabIn K x.1 = some (c, P) ∧ PySem.W.CodeHd h c P ∧ h.get? P = some { cls := .none, data := .fields #[] } ∧ K.lookup P = none
  nd : (ls.map fun p => tbA K p.1).Nodup
section
variable {P : Program} {w : World} {K : Fg} {mg mb : Str → Option Value} {k : Nat} {fa a : Addr} {fd : FuncData} {x : Str} {c : Ct} {s1 : Shared} {vs : List Value} {ns : List Int} {ls : List (Str × Str)}
theorem fp_ghT (K : Fg) : ∀ ls : List (Str × Str), fp (ghT K ls) = ls.map fun p => tbA K p.1
  | [] => rfl
  | p :: ls => by
    have ih := fp_ghT K ls
    unfold ghT fp at *
    rw [List.map_cons, List.flatMap_cons, ih]; rfl
open Classical in
theorem law_runT {H0 : Hp} (KX : K.In s1.heap) (n1 : s1.heap.Ns mainGlobals mg) (n2 : s1.heap.Ns builtinsNs mb) (n3 : ∀ x : Str, x ≠ "__name__" → mb x = bootBuiltins x) (n4 : s1.heap.NoLimit) (hg : s1.gens = #[]) (TH : TabsH K s1.heap ls)
    (hbm : ∃ (bm : Addr) (ob : Obj), mg "__builtins__" = some (.ref bm) ∧ bm ≠ builtinsNs ∧ s1.heap.get? bm = some ob ∧ ob.cls = .type "module" ∧ ob.dict = some builtinsNs ∧ ob.data = .plain)
    (ha : s1.heap.get? a = some { cls := .type "list", data := .seq vs.toArray }) (hr : Rm k callerA)
    (F : ∀ base : Heap, K.In base → base.Ns mainGlobals mg → TbsAt K mg base (ls.map (·.1)) → FnD P w K mg base k fa fd [x] c) (hbind : ∀ (s : Shared) (u : Value), BindsTo s fd ⟨[u], []⟩ [(x, u)])
    (hc : c [.scr ns, .gh (ghT K ls)] fun y _ => y = .val (.bool true)) (hO : Only H0) (hS : SqL K H0 a (ns.map V.int)) (hok : HOk P w H0 s1.heap) (hA : ∀ b, H0 b ≠ none → b = a) (hK : H0 a ≠ none → K.lookup a = none) :
    codeAny (model P w) callerA (.call (.ref fa) ⟨[.ref a], []⟩) (fun r s' => r = .ok (.ret (.bool true)) ∧ OldK s1.heap s'.heap ∧ s'.os = s1.os ∧ AllBare s'.gens) s1 := by
  -- the tables' places
  let tb : Addr → Prop := fun b => b ∈ ls.map fun p => tbA K p.1
  have tbAt : ∀ b, tb b → ∃ p ∈ ls, ∃ c, PySem.W.tabIn K p.1 = some (c, b) ∧ PySem.W.CodeHd s1.heap c b ∧ s1.heap.get? b = some { cls := .none, data := .fields #[] } ∧ K.lookup b = none := by
    intro b hb
    obtain ⟨p, hp, e⟩ := List.mem_map.mp hb
    obtain ⟨c, P, e1, e2, e3, e4⟩ := TH.at' p hp
    have : b = P := by rw [← e]; simp only [tbA, e1]
    subst this
    exact ⟨p, hp, c, e1, e2, e3, e4⟩
  have aT : ¬ tb a := fun z => by
    obtain ⟨_, _, _, _, _, e, _⟩ := tbAt a z
    rw [ha] at e; cases e
  have tH0 : ∀ b, tb b → H0 b = none := fun b hb => by
    by_cases q : H0 b = none
    · exact q
    · have := hA b q; subst this; exact absurd hb aT
  let H : Hp := fun b => if tb b then some (.tbl #[]) else H0 b
  have hH : ∀ b, ¬ tb b → H b = H0 b := fun b n => if_neg n
  have hHt : ∀ b, tb b → H b = some (.tbl #[]) := fun b n => if_pos n
  have sub : Sub H0 H := fun b o e => by
    rw [hH b (fun z => by rw [tH0 b z] at e; cases e)]; exact e
  have hokH : HOk P w H s1.heap := by
    intro b u e
    by_cases q : tb b
    · rw [hHt b q] at e; cases e
      obtain ⟨_, _, _, _, _, e3, _⟩ := tbAt b q
      exact e3
    · rw [hH b q] at e
      refine (hok b u e).stay (fun _ _ _ q => q) (fun d q => sub _ _ q) fun d xs q => sub _ _ q
  have free : ∀ {b : Addr} {o : Obj}, s1.heap.get? b = some o → (∀ vs n, o.data ≠ .seq vs n) → o.data ≠ .fields #[] → H b = none := by
    intro b o e d1 d2
    by_cases q : tb b
    · obtain ⟨_, _, _, _, _, e3, _⟩ := tbAt b q
      rw [e3] at e; cases e; exact absurd rfl d2
    · rw [hH b q]
      by_cases q2 : H0 b = none
      · exact q2
      · cases hA b q2
        rw [ha] at e; cases e; exact absurd rfl (d1 _ _)
  have freeD : ∀ {b : Addr} {o : Obj} {es : Array DictEntry} {ep : Nat}, s1.heap.get? b = some o → o.data = .dict es ep → H b = none := fun e d => free e (fun vs n z => by rw [d] at z; cases z) (fun z => by rw [d] at z; cases z)
  have ns' : ∀ {b : Addr} {m : Str → Option Value}, s1.heap.Ns b m → (hidT s1.heap H).Ns b m := by
    rintro b m ⟨o, es, ep, e, d, r⟩
    exact ⟨o, es, ep, hidT_get e (freeD e d), d, r⟩
  have kin : K.In (hidT s1.heap H) := by
    intro b o e
    refine hidT_get (KX b o e) ?_
    by_cases q : tb b
    · obtain ⟨_, _, _, _, _, _, e4⟩ := tbAt b q
      rw [e4] at e; cases e
    · rw [hH b q]
      by_cases q2 : H0 b = none
      · exact q2
      · cases hA b q2
        rw [hK q2] at e; cases e
  obtain ⟨mc, l1, l2⟩ := n4
  have md : Mod K mg (hidT s1.heap H) := ⟨kin, ns' n1, ⟨mb, ns' n2, n3⟩, mc, ns' l1, l2⟩
  have TB : TbsAt K mg (hidT s1.heap H) (ls.map (·.1)) := by
    intro y hy
    obtain ⟨p, hp, e⟩ := List.mem_map.mp hy
    subst e
    obtain ⟨c, Pt, e1, e2, e3, e4⟩ := TH.at' p hp
    have isT : tb Pt := List.mem_map.mpr ⟨p, hp, by simp only [tbA, e1]⟩
    refine ⟨c, Pt, e1, ?_, ?_, fun z => ?_⟩
    · obtain ⟨o, us, file, tf, flags, tg, inF, text, tt, g1, r1, r2, r3, r4, r5, r6, r7, r8, hne⟩ := e2
      refine ⟨o, us, file, tf, flags, tg, inF, text, tt, hidT_get g1 (free g1 (fun vs n z => by rw [r2] at z; cases z) fun z => ?_), r1, r2, r3, r4, r5, r6, r7, r8, hne⟩
      rw [r2] at z; cases z; simp at r3
    · obtain ⟨bm, ob, b1, b2, b3, b4, b5, b6⟩ := hbm
      have nG : bm ≠ mainGlobals := fun q => by
        obtain ⟨o, es, ep, e, hd, _⟩ := n1
        rw [q, e] at b3; cases b3; rw [hd] at b6; cases b6
      have nP : bm ≠ Pt := fun q => by
        rw [q, e3] at b3; cases b3; cases b6
      exact ⟨bm, ob, b1, b2, nG, nP, hidT_get b3 (free b3 (fun vs n z => by rw [b6] at z; cases z) fun z => by rw [b6] at z; cases z), b4, b5, b6⟩
    · obtain ⟨o, es, ep, e, hd, _⟩ := n1
      rw [z, e3] at e; cases e; cases hd
  have ev : Env0 P w K mg (hidT s1.heap H) callerA [] s1 H := ⟨rfl, md, fun b o e => of_hidT e, Nat.le_of_eq (hidT_size _ _), trivial, fun b z => (by cases z), hokH, .of_eq hg⟩
  have gha : GhArg K H0 H (ghT K ls) := by
    refine ⟨by rw [fp_ghT]; exact TH.nd, fun y hy => ?_, fun p hp => ?_⟩
    · obtain ⟨p, hp, e⟩ := List.mem_map.mp hy
      subst e
      refine .inr ⟨⟨.tbl #[], hHt _ (List.mem_map.mpr ⟨p, hp, rfl⟩), .tbl True.intro fun pos cv z => ?_⟩, fun C dx fs z => by cases z⟩
      have z' : codeAmong pos [] = some cv := z
      simp [codeAmong] at z'
    · rw [fp_ghT] at hp
      exact ⟨tH0 p hp, by rw [hHt p hp]; simp⟩
  have got := (F _ kin (ns' n1) TB).run callerA [] s1 H ⟨[.ref a], []⟩ [.ref a] [.ref a] (fun v _ => v = .bl true) (fun _ _ _ => False) hr rfl ev (hbind s1 (.ref a)) (.cons rfl .nil)
    ⟨H0, [.scr ns, .gh (ghT K ls)], rfl, sub, .cons (.ob (.scr hS)) (.gh gha), ⟨fun i p m z => (by match i with | 0 => simp at z | 1 => simp at z | i + 2 => simp at z), fun i j p m m' z => (by match i with | 0 => simp at z | 1 => simp at z | i + 2 => simp at z)⟩, _, hc, fun y as' v F' H' e1 did re => by
      subst e1
      cases re with | val rp => cases rp; rfl⟩
  refine codeAny_mono got fun r s' h => ?_
  match r, h with
  | .error e, h => exact h.elim
  | .ok .next, h => exact h.elim
  | .ok .brk, h => exact h.elim
  | .ok .cont, h => exact h.elim
  | .ok (.ret u), ⟨v, H', os, bare, un, hok', rv, q⟩ =>
    have q' : v = .bl true := q
    subst q'
    obtain rfl : u = Value.bool true := rv
    have grown : ∀ b, tb b → ∃ more : Array Value, s'.heap.get? b = some { cls := .none, data := .fields more } := fun b hb => by
      obtain ⟨more, z⟩ := un.tbls b #[] (hHt b hb)
      exact ⟨_, hok' b _ z⟩
    have key : ∀ b o, ¬ tb b → s1.heap.get? b = some o → s'.heap.get? b = some o := fun b o nb e => by
      rcases hO b with z | ⟨ob, xs, z⟩
      · exact un.keep b o e (by rw [hH b nb]; exact z) (fun y => by cases y) (fun y => by cases y)
      · have z2 : H b = some (.frz ob (.lst xs)) := by rw [hH b nb]; exact z
        have e1 := (hokH b _ z2).1
        rw [e] at e1; cases e1
        exact (hok' b _ (un.frzs b _ _ z2)).1
    refine ⟨rfl, ⟨fun b o e => ?_, fun b o e => ?_⟩, os, bare⟩
    · by_cases hb : tb b
      · obtain ⟨p, hp, cc, e1, e2, e3, e4⟩ := tbAt b hb
        obtain ⟨more, hm⟩ := grown b hb
        rw [e3] at e; cases e
        exact .inr (.inl ⟨(e2.tab e3).isCodeTable, rfl, #[], more, rfl, by rw [Array.empty_append]; exact hm⟩)
      · exact .inl (key b o hb e)
    · by_cases hb : tb b
      · obtain ⟨more, hm⟩ := grown b hb
        exact ⟨_, hm⟩
      · exact ⟨o, key b o hb e⟩
theorem law_endT (KX : K.In s1.heap) (n1 : s1.heap.Ns mainGlobals mg) (n2 : s1.heap.Ns builtinsNs mb) (n3 : ∀ x : Str, x ≠ "__name__" → mb x = bootBuiltins x) (n4 : s1.heap.NoLimit) (hg : s1.gens = #[]) (TH : TabsH K s1.heap ls)
    (hbm : ∃ (bm : Addr) (ob : Obj), mg "__builtins__" = some (.ref bm) ∧ bm ≠ builtinsNs ∧ s1.heap.get? bm = some ob ∧ ob.cls = .type "module" ∧ ob.dict = some builtinsNs ∧ ob.data = .plain)
    (ha : s1.heap.get? a = some { cls := .type "list", data := .seq vs.toArray }) (hi : IntsAre vs ns) (hl : ns.length ≤ sizeLine) (hr : Rm k callerA)
    (F : ∀ base : Heap, K.In base → base.Ns mainGlobals mg → TbsAt K mg base (ls.map (·.1)) → FnD P w K mg base k fa fd [x] c) (hbind : ∀ (s : Shared) (u : Value), BindsTo s fd ⟨[u], []⟩ [(x, u)])
    (hc : c [.scr ns, .gh (ghT K ls)] fun y _ => y = .val (.bool true)) :
    codeAny (model P w) callerA (.call (.ref fa) ⟨[.ref a], []⟩) (fun r s' => r = .ok (.ret (.bool true)) ∧ OldK s1.heap s'.heap ∧ s'.os = s1.os ∧ AllBare s'.gens) s1 := by
  have go := fun {H : Hp} => law_runT (H0 := H) KX n1 n2 n3 n4 hg TH hbm ha hr F hbind hc
  have rv := vals_ints hi
  have len := hi.length
  cases hk : K.lookup a with
  | some o =>
    have e := KX a o hk
    rw [ha] at e; cases e
    refine go (H := fun _ => none) (fun _ => .inl rfl) (.inr ⟨_, vs.toArray, _, hk, rfl, rfl, rfl, ?_, rv⟩) (fun b u z => by cases z) (fun b z => (z rfl).elim) fun z => (z rfl).elim
    rw [List.size_toArray, len]; exact hl
  | none =>
    refine go (H := upd (fun _ => none) a (.frz { cls := .type "list", data := .seq vs.toArray } (.lst (ns.map V.int)))) (fun b => ?_) (.inl (.inr ⟨_, upd_same⟩)) (fun b u z => ?_) (fun b z => ?_) fun _ => hk
    · by_cases q : b = a
      · subst q; exact .inr ⟨_, _, upd_same⟩
      · exact .inl (upd_ne q)
    · by_cases q : b = a
      · subst q
        rw [upd_same] at z
        cases z
        exact ⟨ha, by rw [List.length_map]; exact hl, vs, _, rv, ha⟩
      · rw [upd_ne q] at z; cases z
    · by_cases q : b = a
      · exact q
      · exact absurd (upd_ne q) z
end
theorem walk_dT {l : PySem.W.OpenLaw} {n k : Nat} {q : Program} {loose : List Str} {XP : (Str → Option Value) → Heap → Prop} {YP : World → Heap → Prop} {d : DefRec} {x : Str} {ls : List (Str × Str)}
    (hn : l.most = some n) (hn2 : n ≤ sizeLine) (hdf : d.params.defaults = []) (hr : Rm k callerA)
    (F : ∀ (w : World) (mg : Str → Option Value) (fa : Addr) (h : Heap), YP w h → h.Ns mainGlobals mg → mg d.name = some (.ref fa) →
      ∃ (K : Fg) (fd : FuncData) (c : Ct), K.In h ∧ TabsH K h ls ∧ (∀ (s : Shared) (u : Value), BindsTo s fd ⟨[u], []⟩ [(x, u)]) ∧ (∀ ns : List Int, ns.length ≤ n → c [.scr ns, .gh (ghT K ls)] fun y _ => y = .val (.bool true)) ∧
        ∀ base : Heap, K.In base → base.Ns mainGlobals mg → TbsAt K mg base (ls.map (·.1)) → FnD l.prog w K mg base k fa fd [x] c) :
    PySem.W.WalkO q loose XP YP l.row.toRowW d [] (fun f vs => PySem.call f vs) := by
  refine Att.attach_call hn hdf fun w s0 s1 mg mb fa o pm cd doc a vs ns G Y ho hd hcd hmg hobj hints hlen hg => ?_
  obtain ⟨K, fd, c, KX, TH, hb, hc, hF⟩ := F w mg fa _ Y G.T.g hmg
  exact law_endT KX G.T.g G.T.b G.T.builtins G.T.nolimit hg TH G.T.bmain hobj hints (Nat.le_trans hlen hn2) hr hF hb (hc ns hlen)
def dropT (K0 : Fg) (ls : List (Str × Str)) : Fg := K0.filter fun p => !(ls.map fun q => tbA K0 q.1).contains p.1
def emptyT : Option Obj → Bool
  | some ⟨.none, none, .fields vs, sl⟩ => vs.isEmpty && sl.isEmpty
  | _ => false
def tabsB (K0 K : Fg) (ls : List (Str × Str)) : Bool := (ls.all fun x => match PySem.W.tabIn K x.1 with
  | some (c, P) => PySem.W.codeHdIn K c P && (emptyT (K0.lookup P) && (K.lookup P).isNone)
  | none => false) && decide (ls.map fun p => tbA K p.1).Nodup
theorem lookup_filter {K0 : Fg} {f : Addr × Obj → Bool} {a : Addr} {o : Obj} : (K0.filter f).lookup a = some o → (∀ p, p.1 = a → f p = true ∨ ∀ q, q.1 = a → f q = false) → K0.lookup a = some o := by
  induction K0 with
  | nil => intro h; cases h
  | cons p K0 ih =>
    intro h hf
    rw [List.lookup_cons]
    cases q : (a == p.1) with
    | true =>
      have e : p.1 = a := (beq_iff_eq.mp q).symm
      rcases hf p e with z | z
      · rw [List.filter_cons_of_pos z, List.lookup_cons, q] at h
        exact h
      · exfalso
        have none : ∀ l : Fg, (l.filter f).lookup a = none := by
          intro l
          induction l with
          | nil => rfl
          | cons y l ih2 =>
            by_cases fy : f y = true
            · rw [List.filter_cons_of_pos fy, List.lookup_cons]
              cases q2 : (a == y.1) with
              | true => rw [z y (beq_iff_eq.mp q2).symm] at fy; cases fy
              | false => exact ih2
            · rw [List.filter_cons_of_neg fy]; exact ih2
        rw [none] at h; cases h
    | false =>
      refine ih ?_ hf
      by_cases fp : f p = true
      · rw [List.filter_cons_of_pos fp, List.lookup_cons, q] at h; exact h
      · rw [List.filter_cons_of_neg fp] at h; exact h
theorem dropT_in {K0 : Fg} {ls : List (Str × Str)} {h : Heap} (X : K0.In h) : (dropT K0 ls).In h := fun a o e => X a o (lookup_filter e fun p hp => by
  by_cases z : (!(ls.map fun q => tbA K0 q.1).contains a) = true
  · left; rw [hp]; exact z
  · right; intro q hq; rw [hq]; exact Bool.eq_false_iff.mpr z)
theorem tabsB_ok {K0 K : Fg} {ls : List (Str × Str)} {h : Heap} (X0 : K0.In h) (X : K.In h) (c : tabsB K0 K ls = true) : TabsH K h ls := by
  obtain ⟨c1, c2⟩ := Bool.and_eq_true_iff.mp c
  refine ⟨fun x hx => ?_, of_decide_eq_true c2⟩
  have z := List.all_eq_true.mp c1 x hx
  split at z
  · rename_i c P e
    obtain ⟨z1, z2⟩ := Bool.and_eq_true_iff.mp z
    obtain ⟨z2, z3⟩ := Bool.and_eq_true_iff.mp z2
    refine ⟨c, P, e, PySem.W.codeHd_of_K X z1, ?_, Option.isNone_iff_eq_none.mp z3⟩
    unfold emptyT at z2
    split at z2
    · rename_i vs sl lk
      obtain ⟨y1, y2⟩ := Bool.and_eq_true_iff.mp z2
      rw [X0 P _ lk, Array.isEmpty_iff.mp y1, Array.isEmpty_iff.mp y2]
    · cases z2
  · cases z
abbrev AlT : Type := AlZ × Bool
def obsT (sy : Bool) (fa : List He.Fa) (fn : List He.DefD) (cs : List (Str × D)) (ts : List (Str × Tab)) (xs : List XF) (ls : List (Str × Str)) (K0 : Fg) : AlT := let K := dropT K0 ls; ((obsY fa fn cs ts xs K, !sy || sysB K), tabsB K0 K ls)
def frT (sy : Bool) (n : Nat) (g : Addr → Option Obj) : Fg := He.frG g (if sy then sysModules :: PySem.cStatics :: He.asD g n else He.asD g n)
def obsTG (sy : Bool) (n : Nat) (fa : List He.Fa) (fn : List He.DefD) (cs : List (Str × D)) (ts : List (Str × Tab)) (xs : List XF) (ls : List (Str × Str)) (g : Addr → Option Obj) : AlT := obsT sy fa fn cs ts xs ls (frT sy n g)
def SaysT (sy : Bool) (fa : List He.Fa) (fn : List He.DefD) (cs : List (Str × D)) (ts : List (Str × Tab)) (xs : List XF) (ls : List (Str × Str)) (w : World) (K0 : Fg) : Prop := obsT sy fa fn cs ts xs ls K0 = ((valY fn ts w, true), true)
def hookT (sy : Bool) (n : Nat) (fa : List He.Fa) (fn : List He.DefD) (cs : List (Str × D)) (ts : List (Str × Tab)) (xs : List XF) (ls : List (Str × Str)) : PySem.W.Hook where
  α := AlT
  obs := fun s => obsTG sy n fa fn cs ts xs ls s.heap.get?
  val := fun w => ((valY fn ts w, true), true)
  says := fun w h => ∃ K0 : Fg, K0.In h ∧ SaysT sy fa fn cs ts xs ls w K0
  of := fun _ _ e => ⟨_, He.frG_in, e⟩
  keeps := fun _ _ _ ⟨K, hK, c⟩ k => ⟨K, PySem.W.Frag.In.keeps hK k, c⟩
theorem obsTG_eq {sy : Bool} {n : Nat} {fa : List He.Fa} {fn : List He.DefD} {cs : List (Str × D)} {ts : List (Str × Tab)} {xs : List XF} {ls : List (Str × Str)} {g : Addr → Option Obj} {s : Shared} (h : ∀ a, g a = s.heap.get? a) : obsTG sy n fa fn cs ts xs ls g = (hookT sy n fa fn cs ts xs ls).obs s := by
  have e : g = s.heap.get? := funext h
  rw [e]
  rfl
section
variable {sy : Bool} {fa : List He.Fa} {fn : List He.DefD} {cs : List (Str × D)} {ts : List (Str × Tab)} {xs : List XF} {ls : List (Str × Str)} {w : World} {K0 : Fg} {h : Heap}
theorem SaysT.y (c : SaysT sy fa fn cs ts xs ls w K0) : SaysY fa fn cs ts xs w (dropT K0 ls) := congrArg (fun z : AlT => z.1.1) c
theorem SaysT.s (c : SaysT true fa fn cs ts xs ls w K0) : SysK (dropT K0 ls) := sysB_ok (congrArg (fun z : AlT => z.1.2) c)
theorem SaysT.t (c : SaysT sy fa fn cs ts xs ls w K0) (X : K0.In h) : TabsH (dropT K0 ls) h ls := tabsB_ok X (dropT_in X) (congrArg (fun z : AlT => z.2) c)
end
end DL
namespace DL
open PySem L2 PyProof.Rows
end DL
namespace DL
open PySem L2 PyProof.Rows
end DL
namespace DL
open PySem L2 PyProof.Rows PpSet
end DL
namespace DL
open PySem L2 PyProof.Rows
end DL
namespace DL
open PySem L2 PyProof.Rows
def xGet (kvs : List (D × X1)) (k : Key) : Option X1 := (kvs.find? fun p => decide (kOf p.1 = some k)).map (·.2)
def xGetT (kvs : List (D × X1)) (k : List Key) : Option X1 := (kvs.find? fun p => decide (ktOf p.1 = some k)).map (·.2)
def xPut (kvs : List (D × X1)) (k : Key) (d : X1) : List (D × X1) :=
  if (kvs.any fun p => decide (kOf p.1 = some k)) = true then kvs.map (fun p => if kOf p.1 = some k then (p.1, d) else p) else kvs ++ [(kD k, d)]
def xPutT (kvs : List (D × X1)) (k : List Key) (d : X1) : List (D × X1) :=
  if (kvs.any fun p => decide (ktOf p.1 = some k)) = true then kvs.map (fun p => if ktOf p.1 = some k then (p.1, d) else p) else kvs ++ [(ktD k, d)]
theorem valx_get {K : Fg} {F : Hp} {k : Key} : ∀ {kvs : List (Key × V)} {ds : List (D × X1)}, ds.map (·.1) = kvs.map (fun p => kD p.1) → XsOk K F (kvs.map (·.2)) (ds.map (·.2)) →
    (valV kvs k = none ∧ xGet ds k = none) ∨ ∃ v d, valV kvs k = some v ∧ xGet ds k = some d ∧ XOk K F v d
  | [], [], _, _ => .inl ⟨rfl, rfl⟩
  | [], _ :: _, e, _ => by cases e
  | _ :: _, [], e, _ => by cases e
  | (k0, v0) :: kvs, (dk, dv) :: ds, e, r => by
    simp only [List.map_cons, List.cons.injEq] at e
    cases r with | cons r1 r2 =>
    obtain ⟨e1, e2⟩ := e
    simp only at e1 r1
    subst e1
    by_cases q : k0 = k
    · subst q
      exact .inr ⟨v0, dv, valV_pos rfl, by simp [xGet, List.find?_cons, kOf_kD], r1⟩
    · have := valx_get (k := k) e2 r2
      rw [valV_neg (show ¬ (k0, v0).1 = k from q)]
      have hh : xGet ((kD k0, dv) :: ds) k = xGet ds k := by simp [xGet, List.find?_cons, kOf_kD, q]
      rw [hh]
      exact this
theorem valx_getT {K : Fg} {F : Hp} {k : List Key} (hk : (k.map kD).all noInt = false) : ∀ {kvs : List (List Key × V)} {ds : List (D × X1)}, ds.map (·.1) = kvs.map (fun p => ktD p.1) → XsOk K F (kvs.map (·.2)) (ds.map (·.2)) →
    (valV kvs k = none ∧ xGetT ds k = none) ∨ ∃ v d, valV kvs k = some v ∧ xGetT ds k = some d ∧ XOk K F v d
  | [], [], _, _ => .inl ⟨rfl, rfl⟩
  | [], _ :: _, e, _ => by cases e
  | _ :: _, [], e, _ => by cases e
  | (k0, v0) :: kvs, (dk, dv) :: ds, e, r => by
    simp only [List.map_cons, List.cons.injEq] at e
    cases r with | cons r1 r2 =>
    obtain ⟨e1, e2⟩ := e
    simp only at e1 r1
    subst e1
    by_cases q : k0 = k
    · subst q
      exact .inr ⟨v0, dv, valV_pos rfl, by simp [xGetT, List.find?_cons, (ktOf_iff hk).mpr], r1⟩
    · have := valx_getT hk e2 r2
      rw [valV_neg (show ¬ (k0, v0).1 = k from q)]
      have hh : xGetT ((ktD k0, dv) :: ds) k = xGetT ds k := by simp [xGetT, List.find?_cons, ktOf_iff hk, q]
      rw [hh]
      exact this
theorem putx_ok {K : Fg} {F : Hp} {kvs : List (Key × V)} {ds : List (D × X1)} {k : Key} {v : V} {d : X1} (h1 : ds.map (·.1) = kvs.map (fun p => kD p.1)) (h2 : XsOk K F (kvs.map (·.2)) (ds.map (·.2))) (hv : XOk K F v d) :
    (xPut ds k d).map (·.1) = (putK kvs k v).map (fun p => kD p.1) ∧ XsOk K F ((putK kvs k v).map (·.2)) ((xPut ds k d).map (·.2)) := by
  have hany : ∀ {kvs : List (Key × V)} {ds : List (D × X1)}, ds.map (·.1) = kvs.map (fun p => kD p.1) → (ds.any fun p => decide (kOf p.1 = some k)) = kvs.any fun p => decide (p.1 = k) := by
    intro kvs
    induction kvs with
    | nil => intro ds h; cases ds with | nil => rfl | cons _ _ => cases h
    | cons q kvs ih =>
      intro ds h
      cases ds with
      | nil => cases h
      | cons p ds =>
        simp only [List.map_cons, List.cons.injEq] at h
        have e : decide (kOf p.1 = some k) = decide (q.1 = k) := by rw [h.1, kOf_kD]; simp
        rw [List.any_cons, List.any_cons, ih h.2, e]
  have hmap : ∀ {kvs : List (Key × V)} {ds : List (D × X1)}, ds.map (·.1) = kvs.map (fun p => kD p.1) → XsOk K F (kvs.map (·.2)) (ds.map (·.2)) →
      (ds.map (fun p => if kOf p.1 = some k then (p.1, d) else p)).map (·.1) = (kvs.map (fun kv => if kv.1 = k then (kv.1, v) else kv)).map (fun p => kD p.1) ∧
      XsOk K F ((kvs.map (fun kv => if kv.1 = k then (kv.1, v) else kv)).map (·.2)) ((ds.map (fun p => if kOf p.1 = some k then (p.1, d) else p)).map (·.2)) := by
    intro kvs
    induction kvs with
    | nil => intro ds h _; cases ds with | nil => exact ⟨rfl, .nil⟩ | cons _ _ => cases h
    | cons q kvs ih =>
      intro ds h r
      cases ds with
      | nil => cases h
      | cons p ds =>
        simp only [List.map_cons, List.cons.injEq] at h
        cases r with
        | cons r1 r2 =>
          obtain ⟨g1, g2⟩ := ih h.2 r2
          simp only [List.map_cons]
          by_cases e : q.1 = k
          · have e2 : kOf p.1 = some k := by rw [h.1, kOf_kD, e]
            rw [if_pos e, if_pos e2]
            exact ⟨by rw [g1]; simp only [h.1], .cons hv g2⟩
          · have e2 : ¬ kOf p.1 = some k := by rw [h.1, kOf_kD]; intro z; exact e (Option.some.inj z)
            rw [if_neg e, if_neg e2]
            exact ⟨by rw [g1]; simp only [h.1], .cons r1 g2⟩
  unfold xPut putK
  rw [hany h1]
  split
  · exact hmap h1 h2
  · rw [List.map_append, List.map_append, List.map_append, List.map_append, h1]
    exact ⟨rfl, h2.append (.cons hv .nil)⟩
theorem putx_okT {K : Fg} {F : Hp} {kvs : List (List Key × V)} {ds : List (D × X1)} {k : List Key} {v : V} {d : X1} (hk : (k.map kD).all noInt = false) (h1 : ds.map (·.1) = kvs.map (fun p => ktD p.1)) (h2 : XsOk K F (kvs.map (·.2)) (ds.map (·.2))) (hv : XOk K F v d) :
    (xPutT ds k d).map (·.1) = (putK kvs k v).map (fun p => ktD p.1) ∧ XsOk K F ((putK kvs k v).map (·.2)) ((xPutT ds k d).map (·.2)) := by
  have hany : ∀ {kvs : List (List Key × V)} {ds : List (D × X1)}, ds.map (·.1) = kvs.map (fun p => ktD p.1) → (ds.any fun p => decide (ktOf p.1 = some k)) = kvs.any fun p => decide (p.1 = k) := by
    intro kvs
    induction kvs with
    | nil => intro ds h; cases ds with | nil => rfl | cons _ _ => cases h
    | cons q kvs ih =>
      intro ds h
      cases ds with
      | nil => cases h
      | cons p ds =>
        simp only [List.map_cons, List.cons.injEq] at h
        have e : decide (ktOf p.1 = some k) = decide (q.1 = k) := by rw [h.1]; simp [ktOf_iff hk]
        rw [List.any_cons, List.any_cons, ih h.2, e]
  have hmap : ∀ {kvs : List (List Key × V)} {ds : List (D × X1)}, ds.map (·.1) = kvs.map (fun p => ktD p.1) → XsOk K F (kvs.map (·.2)) (ds.map (·.2)) →
      (ds.map (fun p => if ktOf p.1 = some k then (p.1, d) else p)).map (·.1) = (kvs.map (fun kv => if kv.1 = k then (kv.1, v) else kv)).map (fun p => ktD p.1) ∧
      XsOk K F ((kvs.map (fun kv => if kv.1 = k then (kv.1, v) else kv)).map (·.2)) ((ds.map (fun p => if ktOf p.1 = some k then (p.1, d) else p)).map (·.2)) := by
    intro kvs
    induction kvs with
    | nil => intro ds h _; cases ds with | nil => exact ⟨rfl, .nil⟩ | cons _ _ => cases h
    | cons q kvs ih =>
      intro ds h r
      cases ds with
      | nil => cases h
      | cons p ds =>
        simp only [List.map_cons, List.cons.injEq] at h
        cases r with
        | cons r1 r2 =>
          obtain ⟨g1, g2⟩ := ih h.2 r2
          simp only [List.map_cons]
          by_cases e : q.1 = k
          · have e2 : ktOf p.1 = some k := by rw [h.1]; exact (ktOf_iff hk).mpr e
            rw [if_pos e, if_pos e2]
            exact ⟨by rw [g1]; simp only [h.1], .cons hv g2⟩
          · have e2 : ¬ ktOf p.1 = some k := by rw [h.1]; intro z; exact e ((ktOf_iff hk).mp z)
            rw [if_neg e, if_neg e2]
            exact ⟨by rw [g1]; simp only [h.1], .cons r1 g2⟩
  unfold xPutT putK
  rw [hany h1]
  split
  · exact hmap h1 h2
  · rw [List.map_append, List.map_append, List.map_append, List.map_append, h1]
    exact ⟨rfl, h2.append (.cons hv .nil)⟩
/-- what stands in a node at a key -/
def ndGet (nd : Nd) (d : D) : Option X1 := match nd with
  | .lst ws => match d with
    | .int i => atI ws i
    | _ => none
  | .dK kvs => match kOf d with
    | some k => xGet kvs k
    | none => none
  | .dT kvs => match ktOf d with
    | some k => xGetT kvs k
    | none => none
  | _ => none
def ndPut (nd : Nd) (d : D) (w : X1) : Option Nd := match nd with
  | .dK kvs => match kOf d with
    | some k => some (.dK (xPut kvs k w))
    | none => none
  | .dT kvs => match ktOf d with
    | some k => some (.dT (xPutT kvs k w))
    | none => none
  | _ => none
def ndLen : Nd → Nat
  | .dK kvs => kvs.length
  | .dT kvs => kvs.length
  | _ => 0
section
variable {K : Fg} {F H : Hp}
theorem NO.ix {o : HO} {nd : Nd} {a : Addr} {v : V} {d : D} {w : X1} (h : NO K F o nd) (ho : H a = some o) (hs : Sub F H) (lk : Lk K F H v d) (e : ndGet nd d = some w) : ∃ u, XOk K F u w ∧ ((∃ xs i, H a = some (.lst xs) ∧ v = .int i ∧ atI xs i = some u) ∨ DGet H a v (some u)) := by
  unfold ndGet at e
  split at e
  · split at e
    · cases h with
      | lst h1 =>
        obtain ⟨u, e1, e2⟩ := h1.at e
        exact ⟨u, e2, .inl ⟨_, _, ho, lk.int, e1⟩⟩
    · cases e
  · split at e
    · rename_i k ek
      cases h with
      | dK h1 h2 =>
        have := lk.key ek
        subst this
        rcases valx_get (k := k) h1 h2 with ⟨z1, z2⟩ | ⟨u, w', z1, z2, z3⟩
        · rw [z2] at e; cases e
        · rw [z2] at e; cases e
          refine ⟨u, z3, .inr ?_⟩
          have := DGet.k (k := k) ho
          rw [z1] at this
          exact this
    · cases e
  · split at e
    · rename_i k ek
      cases h with
      | dT h1 h2 =>
        obtain ⟨bt, rfl, hb⟩ := lk.tkey hs ek
        rcases valx_getT (ktOf_some ek).2 h1 h2 with ⟨z1, z2⟩ | ⟨u, w', z1, z2, z3⟩
        · rw [z2] at e; cases e
        · rw [z2] at e; cases e
          refine ⟨u, z3, .inr ?_⟩
          have := DGet.t (k := k) ho hb
          rw [z1] at this
          exact this
    · cases e
  · cases e
theorem NO.put {o : HO} {nd nd' : Nd} {a : Addr} {v u : V} {d : D} {w : X1} (h : NO K F o nd) (ho : H a = some o) (hs : Sub F H) (lk : Lk K F H v d) (hw : XOk K F u w) (hl : ndLen nd < sizeLine) (e : ndPut nd d w = some nd') :
    ∃ o', DPut H a v u (upd H a o') ∧ NO K F o' nd' ∧ fpN (a, nd') = fpN (a, nd) ∧ nd ≠ .dead ∧ ∀ C dx fs, nd' ≠ .ins C dx fs := by
  unfold ndPut at e
  split at e
  · split at e
    · rename_i k ek
      cases e
      cases h with
      | @dK kvs _ h1 h2 =>
        have := lk.key ek
        subst this
        obtain ⟨p1, p2⟩ := putx_ok (k := k) h1 h2 hw
        have l2 : kvs.length = _ := (by have := congrArg List.length h1; simpa using this.symm : kvs.length = _)
        refine ⟨_, .k ho (by rw [l2]; exact hl), .dK p1 p2, rfl, by intro z; (cases z), by intro _ _ _ z; (cases z)⟩
    · cases e
  · split at e
    · rename_i k ek
      cases e
      cases h with
      | @dT kvs _ h1 h2 =>
        obtain ⟨bt, rfl, hb⟩ := lk.tkey hs ek
        obtain ⟨p1, p2⟩ := putx_okT (ktOf_some ek).2 h1 h2 hw
        have l2 : kvs.length = _ := (by have := congrArg List.length h1; simpa using this.symm : kvs.length = _)
        refine ⟨_, .t ho hb (by rw [l2]; exact hl), .dT p1 p2, rfl, by intro z; (cases z), by intro _ _ _ z; (cases z)⟩
    · cases e
  · cases e
end
end DL
namespace DL
open PySem L2 PyProof.Rows
section
variable {X : Cx}
theorem ixA_all (hu : X.A.units + 1 < cLine) : ∃ rr : R2, IxR X rr ∧ (∀ (e : En) (F : Hp) (r : Rho) (s : L2.St) (H : Hp) (v1 v2 : V) (d1 d2 : D) (z : R) (Q : VK),
    Ok X.K e F r s H → Lk X.K F H v1 d1 → Lk X.K F H v2 d2 → oIxA.f d1 d2 = some z → (∀ v F' H', Ok X.K e F' r s H' → Sub F F' → RR X.K e F' r s H' z v → Q v H') → rr v1 v2 H Q) ∧
    ∀ (a : Addr) (y u : V) (H : Hp) (Q : VK), ((∃ xs i, H a = some (.lst xs) ∧ y = .int i ∧ atI xs i = some u) ∨ DGet H a y (some u)) → Q u H → rr (.ref a) y H Q :=
  ⟨_, IxR.or (ix_dict hu) (IxR.or ix_list (IxR.or ix_tup ix_str)), (fun e F r s H v1 v2 d1 d2 z Q k l1 l2 ef w => by
    simp only [oIxA] at ef
    unfold fIxA orF at ef
    split at ef
    · rename_i y hy
      cases ef
      unfold fIx at hy
      split at hy
      · split at hy
        · rename_i hd; cases hy
          obtain ⟨p, xs, e1, h1, r1⟩ := l1.lst k.sub
          obtain ⟨v, g1, g2⟩ := r1.at hd
          exact .inr (.inl ⟨p, xs, _, v, e1, l2.int, .inl h1, g1, w _ F H k (Sub.refl F) (.val g2)⟩)
        · cases hy
      · split at hy
        · rename_i hd; cases hy
          obtain ⟨p, xs, e1, h1, r1, _⟩ := l1.tup k.sub
          obtain ⟨v, g1, g2⟩ := r1.at hd
          exact .inr (.inr (.inl ⟨p, xs, _, v, e1, l2.int, h1, g1, w _ F H k (Sub.refl F) (.val g2)⟩))
        · cases hy
      · split at hy
        · rename_i hz
          split at hy
          · rename_i hd; cases hy
            exact .inr (.inr (.inr ⟨_, _, _, l1.str, l2.int, hz, hd, w _ F H k (Sub.refl F) (.val (.str _))⟩))
          · cases hy
        · cases hy
      · cases hy
    · unfold fIxD at ef
      split at ef
      · split at ef
        · rename_i hk
          split at ef
          · rename_i k0 ek
            split at ef
            · rename_i d ed; cases ef
              obtain ⟨ad, kvs, e1, h1, h2, h3⟩ := l1.dk k.sub hk (dGet_ne ed)
              rcases val_get (k := k0) h2 h3 with ⟨_, n⟩ | ⟨v, d', g1, g2, g3⟩
              · rw [ed] at n; cases n
              · rw [ed] at g2; cases g2
                have ey := l2.key ek
                subst ey
                refine .inl ⟨ad, v, e1, ?_, w _ F H k (Sub.refl F) (.val g3)⟩
                have := (show DGet _ ad (kV k0) (valV kvs k0) from .inl ⟨kvs, k0, h1, rfl, rfl⟩)
                rw [g1] at this
                exact this
            · cases ef
          · cases ef
        · cases ef
      · cases ef), fun a y u H Q h q => by
    rcases h with ⟨xs, i, h1, rfl, h2⟩ | h
    · exact .inr (.inl ⟨a, xs, i, u, rfl, rfl, SqL.of h1, h2, q⟩)
    · exact .inl ⟨a, u, rfl, h, q⟩⟩
end
def KIxN (g : Nat) (P : Po) (x y : R) (r : Rho) : Prop := match x with
  | .adr n a => onN r g (.adr n a) fun _ _ _ nd => onO (look r y) fun d => onO (ndGet nd d) fun w => P (x1R w) r
  | x => KOp oIxA P x y r
/-- x[k] of a node, or of data -/
def mIxN (g : Nat) (ma mb : ME) : ME := fun r P => ma r fun x r1 => mb r1 fun y r2 => KIxN g P x.tmp y.tmp r2
def KPutN (g : Nat) (w : X1) (O : Out) (x y : R) (r : Rho) : Prop := onN r g x fun n a G nd => onO (look r y) fun d => Rq (ndLen nd < sizeLine) (onO (ndPut nd d w) fun nd' => strict (r.set g (some (.gh (G.set n (a, nd'))))) O.nx)
/-- x[k] = v of a node that is a dict -/
def sPutN (g : Nat) (mv ma mb : ME) : MS := fun r O => mv r fun z r1 => onP (holdX r1 z.tmp) fun w r2 => ma r2 fun x r3 => mb r3 fun y r4 => KPutN g w O x.tmp y.tmp r4
def ndOf : MB → Nd
  | .L ds => .lst (ds.map .val)
  | .K kvs => .dK (kvs.map fun p => (p.1, .val p.2))
  | .T kvs => .dT (kvs.map fun p => (p.1, .val p.2))
/-- a new object is a node -/
def mNod (g : Nat) (m : ME) : ME := fun r P => m r fun x r1 => match x with
  | .own b => onO (ghAt r1 g) fun G => ∀ p : Addr, strict (r1.set g (some (.gh (G ++ [(p, ndOf b)])))) fun r2 => P (.adr G.length p) r2
  | _ => False
section
variable {K : Fg} {e : En} {F : Hp} {r : Rho} {s : L2.St} {H : Hp}
theorem rpA_xs : ∀ {vs : List V} {ds : List D}, RpA K F vs ds → XsOk K F vs (ds.map .val)
  | _, _, .nil => .nil
  | _, _, .cons a b => .cons (.val a) (rpA_xs b)
theorem xs_rpA : ∀ {vs : List V} {ds : List D}, XsOk K F vs (ds.map .val) → RpA K F vs ds
  | _, [], .nil => .nil
  | _, d :: ds, h => by
    cases h with
    | cons a b =>
      cases a with | val a => exact .cons a (xs_rpA b)
theorem snd_val (kvs : List (D × D)) : (kvs.map fun p => (p.1, X1.val p.2)).map (·.2) = (kvs.map (·.2)).map .val := by rw [List.map_map, List.map_map]; rfl
theorem fst_val (kvs : List (D × D)) : (kvs.map fun p => (p.1, X1.val p.2)).map (·.1) = kvs.map (·.1) := by rw [List.map_map]; rfl
theorem MO.no {o : HO} {m : MB} (h : MO K F o m) : NO K F o (ndOf m) := by
  cases h with
  | L a => exact .lst (rpA_xs a)
  | K a b => exact .dK (by rw [fst_val]; exact a) (by rw [snd_val]; exact rpA_xs b)
  | T a b => exact .dT (by rw [fst_val]; exact a) (by rw [snd_val]; exact rpA_xs b)
theorem NO.mo {o : HO} {m : MB} (h : NO K F o (ndOf m)) : MO K F o m := by
  cases m with
  | L ds => cases h with | lst a => exact .L (xs_rpA a)
  | K kvs => cases h with | dK a b => exact .K (by rw [fst_val] at a; exact a) (by rw [snd_val] at b; exact xs_rpA b)
  | T kvs => cases h with | dT a b => exact .T (by rw [fst_val] at a; exact a) (by rw [snd_val] at b; exact xs_rpA b)
/-- an object that nobody else holds becomes a node -/
theorem Ok.nodeAdd {g : Nat} {G : Gh} {p : Addr} {nd : Nd} {o : HO} (k : Ok K e F r s H) (hg : r[g]? = some (some (.gh G))) (hp : H p = some o) (hF : F p = none) (hP : e.P p = none) (hold : ¬ e.old p) (nbx : NB r s p) (hf : fpN (p, nd) = [p]) (ho : NO K F o nd) (hi : ∀ C dx fs, nd ≠ .ins C dx fs) : Ok K e F (r.set g (some (.gh (G ++ [(p, nd)])))) s H := by
  obtain ⟨w1, w2, w3⟩ := k.gh g G hg
  have np : p ∉ fp G := nbx.2 g G hg
  refine k.setGh w3 ⟨?_, fun x hx => ?_, fun q hq => ?_⟩ (fun j b m q z _ w hq => ?_) k.sub k.prot k.dom fun j b m q u _ _ w => w
  · rw [fp_app, hf, List.nodup_append]
    refine ⟨w1.nd, by simp, fun x hx y hy => ?_⟩
    simp at hy; subst hy
    exact fun t => np (t ▸ hx)
  · rcases List.mem_append.mp hx with h | h
    · exact w1.at' x h
    · simp at h; subst h
      exact .inr ⟨⟨o, hp, ho⟩, fun C dx fs q => absurd q (hi C dx fs)⟩
  · rw [fp_app, hf] at hq
    rcases List.mem_append.mp hq with h | h
    · exact w1.fr q h
    · simp at h; subst h
      exact ⟨hF, hP, fun z => absurd z hold, by rw [hp]; simp⟩
  · rw [fp_app, hf] at hq
    rcases List.mem_append.mp hq with h | h
    · exact w2 j b m q z w h
    · simp at h; subst h
      exact nbx.1 j b m z w
end
theorem fpN_ndOf (p : Addr) (m : MB) : fpN (p, ndOf m) = [p] := by cases m <;> rfl
theorem ndOf_ins (m : MB) : ∀ C dx fs, ndOf m ≠ .ins C dx fs := by intro C dx fs; cases m <;> (intro z; cases z)
theorem ndOf_dead (m : MB) : ndOf m ≠ .dead := by cases m <;> (intro z; cases z)
section
variable {X : Cx} {a b c o i : Expr} {ma mb mk mc mv : ME} {pos pos' p apos : Pos} {g : Nat}
theorem de_ixN (hu : X.A.units + 1 < cLine) (ha : DE X a ma) (hb : DE X b mb) (hs : PlainIx b := by intro _ _; rfl) : DE X (.Subscript a b pos) (mIxN g ma mb) := fun e => by
  obtain ⟨rr, h1, h2, h3⟩ := ixA_all (X := X) hu
  exact PE.imp (pe_ix h1 (ha.tmp e) (hb.tmp e) hs) fun s H Q ⟨F, r, k, P, hm, hP⟩ => ⟨F, r, k, fun x r1 => mb r1 fun y r2 => KIxN g P x y.tmp r2, hm, fun x r1 v1 F1 H1 hx k1 q1 t1 => ⟨F1, r1, k1, fun y r2 => KIxN g P x y r2, hx, fun y r2 v2 F2 H2 hy k2 q2 t2 => by
    have kop : KOp oIxA P x y r2 → rr v1 v2 H2 Q := fun hz => by
      obtain ⟨d1, d2, z, e1, e2, ef, hz⟩ := KOp.ex hz
      exact h2 e F2 r2 s H2 v1 v2 d1 d2 z Q k2 ((t1.mono q2).look k2 e1) (t2.look k2 e2) ef fun v F' H' k' q' hr => hP z r2 v F' H' hz k' ((q1.trans q2).trans q') hr
    cases x with
    | adr n a =>
      cases t1
      obtain ⟨n', a', G, nd, e1, e2, e3, hx2⟩ := onN.ex (show onN r2 g (.adr n a) _ from hy)
      cases e1
      obtain ⟨d, e4, hx3⟩ := onO.ex hx2
      obtain ⟨w, e5, hp⟩ := onO.ex hx3
      have nd0 : nd ≠ .dead := by intro z; subst z; cases e5
      obtain ⟨oo, w1, w2, _⟩ := k2.node e2 e3 nd0
      obtain ⟨u, u1, u2⟩ := w2.ix w1 k2.sub (t2.look k2 e4) e5
      exact h3 _ _ _ _ _ u2 (hP _ r2 u F2 H2 hp k2 (q1.trans q2) u1.rr)
    | val d => exact kop hy
    | own d => exact kop hy
    | bor d => exact kop hy
    | ob d => exact kop hy⟩⟩
theorem ds_putN (hu : X.A.units + 1 < cLine) (hv : DE X a mv) (ho : DE X o ma) (hi : DE X i mb) (hs : swapsWith a (some (.Subscript o i pos')) pos.line X.env = pure false := by rfl) : DS X (.Assign [.Subscript o i pos'] a pos) (sPutN g mv ma mb) := fun e =>
  PS.imp (ps_dput hu (ho.tmp e) (hi.tmp e) (hv.tmp e) hs) fun D s H ⟨F, r, k, O, hm, h⟩ => ⟨F, r, k, fun z r1 => onP (holdX r1 z) fun w r2 => ma r2 fun x r3 => mb r3 fun y r4 => KPutN g w O x.tmp y.tmp r4, hm, fun z r1 v F1 H1 hz k1 q1 t1 => by
    obtain ⟨w, r2, eh, hz2⟩ := onP.ex hz
    obtain ⟨F2, k2, q2, xw⟩ := t1.holdX k1 eh
    exact ⟨F2, r2, k2, fun x r3 => mb r3 fun y r4 => KPutN g w O x y.tmp r4, hz2, fun x r3 v3 F3 H3 hx k3 q3 t3 => ⟨F3, r3, k3, fun y r4 => KPutN g w O x y r4, hx, fun y r4 v4 F4 H4 hy k4 q4 t4 => by
      obtain ⟨n, a, G, nd, e1, e2, e3, hy2⟩ := onN.ex hy
      obtain ⟨d, e4, hy3⟩ := onO.ex hy2
      have hl := Rq.c hy3
      obtain ⟨nd', e5, hy4⟩ := onO.ex (Rq.a hy3)
      subst e1
      cases t3
      have nd0 : nd ≠ .dead := by intro z; subst z; cases e5
      obtain ⟨oo, w1, w2, _⟩ := k4.node e2 e3 nd0
      obtain ⟨o', u1, u2, u3, u4, u5⟩ := w2.put w1 k4.sub (t4.look k4 e4) (xw.mono (q3.trans q4)) hl e5
      exact ⟨a, _, rfl, u1, h.nx _ s F4 _ hy4.ex (k4.nodeWrite e2 e3 nd0 u3 u2 fun C dx fs z => absurd z (u5 C dx fs)) (((q1.trans q2).trans q3).trans q4)⟩⟩⟩⟩
theorem de_nod {m : ME} (h : DE X a m) : DE X a (mNod g m) := fun e => PE.imp (h e) fun s H Q ⟨F, r, k, P, hm, hP⟩ => ⟨F, r, k, _, hm, fun x r1 v F1 H1 hx k1 q1 t1 => by
  cases t1 with
  | own h1 h2 h3 h4 h5 h6 =>
    obtain ⟨G, eg, hp⟩ := onO.ex hx
    exact hP _ _ _ F1 H1 (hp _).ex (k1.nodeAdd (ghAt_of eg) h1 h3 h4 h5 h6 (fpN_ndOf _ _) h2.no (ndOf_ins _)) q1 .adr
  | val _ => exact hx.elim
  | bor _ _ => exact hx.elim
  | ob _ => exact hx.elim
  | adr => exact hx.elim⟩
end
end DL
namespace DL
open PySem L2 PyProof.Rows
def mPairsN : List (ME × ME) → Rho → (List (D × X1) → Rho → Prop) → Prop
  | [], r, P => P [] r
  | m :: ms, r, P => m.1 r fun x r1 => onP (hold r1 x.tmp) fun qa qb => m.2 qb fun y r3 => onP (holdX r3 y.tmp) fun qc qd => mPairsN ms qd fun ps r5 => P ((qa, qc) :: ps) r5
def keysOfX : List (D × X1) → Option (List Key)
  | [] => some []
  | p :: ps => match kOf p.1, keysOfX ps with
    | some k, some ks => some (k :: ks)
    | _, _ => none
theorem keysOfX_read {K : Fg} {F : Hp} : ∀ {ps : List (D × X1)} {ks : List Key} {vs : List (V × V)}, keysOfX ps = some ks → RpA K F (vs.map (·.1)) (ps.map (·.1)) → XsOk K F (vs.map (·.2)) (ps.map (·.2)) →
    ∃ kvs : List (Key × V), vs = kvs.map (fun kv => (kV kv.1, kv.2)) ∧ kvs.map (·.1) = ks ∧ ps.map (·.1) = kvs.map (fun p => kD p.1) ∧ XsOk K F (kvs.map (·.2)) (ps.map (·.2))
  | [], ks, vs, e, r1, r2 => by
    cases e
    cases vs with
    | nil => exact ⟨[], rfl, rfl, rfl, .nil⟩
    | cons _ _ => cases r1
  | (dk, dv) :: ps, ks, vs, e, r1, r2 => by
    cases vs with
    | nil => cases r1
    | cons v vs =>
      cases r1 with | cons a1 a2 =>
      cases r2 with | cons b1 b2 =>
      simp only [keysOfX] at e
      split at e
      · rename_i k ks' e1 e2
        cases e
        obtain ⟨kvs, g1, g2, g3, g4⟩ := keysOfX_read e2 a2 b2
        cases kOf_some e1
        have := a1.key
        refine ⟨(k, v.2) :: kvs, ?_, ?_, ?_, ?_⟩
        · simp only [List.map_cons, ← g1]
          congr 1
          obtain ⟨v1, v2⟩ := v
          exact Prod.ext this rfl
        · simp [g2]
        · simp [g3]
        · exact .cons b1 g4
      · cases e
section
variable {X : Cx} {g : Nat} {pos : Pos}
theorem pairsN_read {e : En} {s : L2.St} : ∀ {ms : List (ME × ME)} {F : Hp} {r : Rho} {H : Hp} {P : List (D × X1) → Rho → Prop} {Q : List (V × V) → Hp → Prop}, Ok X.K e F r s H → mPairsN ms r P →
    (∀ ps r' vs F' H', P ps r' → Ok X.K e F' r' s H' → Sub F F' → RpA X.K F' (vs.map (·.1)) (ps.map (·.1)) → XsOk X.K F' (vs.map (·.2)) (ps.map (·.2)) → Q vs H') → tPairs (ms.map fun p => (tEx X.K p.1, tEx X.K p.2)) s H Q
  | [], F, r, H, P, Q, k, hm, w => w [] r [] F H hm k (Sub.refl F) .nil .nil
  | m :: ms, F, r, H, P, Q, k, hm, w => by
    refine ⟨e, F, r, k, fun x r1 => onP (hold r1 x) fun qa qb => m.2 qb fun y r3 => onP (holdX r3 y.tmp) fun qc qd => mPairsN ms qd fun ps r5 => P ((qa, qc) :: ps) r5, hm, ?_⟩
    intro x r1 v1 F1 H1 hx1 k1 q1 t1
    obtain ⟨dk, r2, eh, hm2⟩ := onP.ex hx1
    obtain ⟨F2, k2, q2, rp2⟩ := t1.hold k1 eh
    refine ⟨e, F2, r2, k2, fun y r3 => onP (holdX r3 y) fun qc qd => mPairsN ms qd fun ps r5 => P ((dk, qc) :: ps) r5, hm2, ?_⟩
    intro y r3 v3 F3 H3 hx3 k3 q3 t3
    obtain ⟨dv, r4, eh4, hm4⟩ := onP.ex hx3
    obtain ⟨F4, k4, q4, rp4⟩ := t3.holdX k3 eh4
    refine pairsN_read k4 hm4 fun ps r' vs F' H' hp k' q' ra rb => w _ r' _ F' H' hp k' ((((q1.trans q2).trans q3).trans q4).trans q') ?_ ?_
    · exact .cons (rp2.mono ((q3.trans q4).trans q')) ra
    · exact .cons (rp4.mono q') rb
def mDispN (g : Nat) (ms : List (ME × ME)) : ME := fun r P => mPairsN ms r fun ps r1 => onO (keysOfX ps) fun ks => Rq (ks.Nodup ∧ ps.length ≤ 15) (onO (ghAt r1 g) fun G => ∀ p : Addr, strict (r1.set g (some (.gh (G ++ [(p, .dK ps)])))) fun r2 => P (.adr G.length p) r2)
theorem de_dispN {ks : List (Option Expr)} {vs : List Expr} {ms : List (ME × ME)} (h : DPs X ks vs ms) (hall : ks.all (·.isSome) = true := by rfl) (hl : ks.length = vs.length := by rfl) (h0 : ks ≠ [] := by simp) (h15 : ks.length ≤ 15 := by decide) : DE X (.Dict ks vs pos) (mDispN g ms) := fun e => by
  refine PE.imp (pe_disp (h.pps (pos := pos)) hall hl h0 h15) fun s H Q ⟨F, r, k, P, hm, hP⟩ p hp => ?_
  have fr := k.free hp
  have hF0 : e.F0 p = none := by
    cases q : e.F0 p with
    | none => rfl
    | some u => rw [k.f0 p u q] at fr; cases fr.1
  have k1 : Ok X.K (e.keep p (.dK [])) F r s (upd H p (.dK [])) := (k.alloc hp).keep upd_same fr.1 (k.nobox hp)
  refine pairsN_read k1 hm ?_
  intro ps r' vs F' H' hx k' q' ra rb
  obtain ⟨ks, ek, hx2⟩ := onO.ex hx
  obtain ⟨nd, h15⟩ := Rq.c hx2
  obtain ⟨G, eg, hp2⟩ := onO.ex (Rq.a hx2)
  obtain ⟨kvs, g1, g2, g3, g4⟩ := keysOfX_read ek ra rb
  obtain ⟨_, w1, _⟩ := k'.unkeep fr.2.1 hF0
  have hlen : kvs.length = ps.length := by
    have := congrArg List.length g3
    simpa using this.symm
  refine ⟨w1, kvs, g1, by omega, ?_⟩
  rw [merge_new kvs [] (by simpa [g2] using nd), List.nil_append]
  obtain ⟨k2, u1, u2, u3⟩ := (k'.rekeep (o' := .dK kvs) fr.2.1 hF0).unkeep fr.2.1 hF0
  exact hP _ _ _ F' _ (hp2 p).ex (k2.nodeAdd (ghAt_of eg) u1 u2 fr.2.1 fr.2.2 u3 rfl (.dK g3 g4) (by intro _ _ _ z; cases z)) q' .adr
end
def frzX (n : Nat) (a : Addr) (d : D) : X1 → X1
  | .adr m b => if m = n ∧ b = a then .val d else .adr m b
  | x => x
def frzN (n : Nat) (a : Addr) (d : D) : Nd → Nd
  | .lst ws => .lst (ws.map (frzX n a d))
  | .dK kvs => .dK (kvs.map fun p => (p.1, frzX n a d p.2))
  | .dT kvs => .dT (kvs.map fun p => (p.1, frzX n a d p.2))
  | .ins C dx fs => .ins C dx (fs.map fun p => (p.1, frzX n a d p.2))
  | .dead => .dead
  | .tbl q => .tbl q
/-- a node whose parts are data is frozen -/
inductive FrzS : Gh → Gh → Prop
  | one {G : Gh} {n : Nat} {a : Addr} {m : MB} : G[n]? = some (a, ndOf m) → FrzS G ((G.set n (a, .dead)).map fun x => (x.1, frzN n a m.toD x.2))
inductive Frz : Gh → Gh → Prop
  | refl {G : Gh} : Frz G G
  | step {G G1 G2 : Gh} : FrzS G G1 → Frz G1 G2 → Frz G G2
section
variable {K : Fg} {e : En} {F : Hp} {r : Rho} {s : L2.St} {H : Hp} {n : Nat} {a : Addr} {d : D}
theorem XOk.frz {v : V} {x : X1} (h : XOk K F v x) (hd : Rp K F (.ref a) d) : XOk K F v (frzX n a d x) := by
  cases h with
  | val q => exact .val q
  | @adr m b =>
    simp only [frzX]
    split
    · rename_i z; obtain ⟨rfl, rfl⟩ := z; exact .val hd
    · exact .adr
theorem XsOk.frz (hd : Rp K F (.ref a) d) : ∀ {vs : List V} {xs : List X1}, XsOk K F vs xs → XsOk K F vs (xs.map (frzX n a d))
  | _, _, .nil => .nil
  | _, _, .cons h t => .cons (h.frz hd) (XsOk.frz hd t)
theorem frz_fst {α : Type} (kvs : List (α × X1)) : (kvs.map fun p => (p.1, frzX n a d p.2)).map (·.1) = kvs.map (·.1) := by rw [List.map_map]; rfl
theorem frz_snd {α : Type} (kvs : List (α × X1)) : (kvs.map fun p => (p.1, frzX n a d p.2)).map (·.2) = (kvs.map (·.2)).map (frzX n a d) := by rw [List.map_map, List.map_map]; rfl
theorem NO.frz {o : HO} {nd : Nd} (h : NO K F o nd) (hd : Rp K F (.ref a) d) : NO K F o (frzN n a d nd) := by
  cases h with
  | lst q => exact .lst (q.frz hd)
  | dK q1 q2 => exact .dK (by rw [frz_fst]; exact q1) (by rw [frz_snd]; exact q2.frz hd)
  | dT q1 q2 => exact .dT (by rw [frz_fst]; exact q1) (by rw [frz_snd]; exact q2.frz hd)
  | ins q1 q2 q3 => exact .ins (by rw [frz_fst]; exact q1) (by rw [frz_fst]; exact q2) (by rw [frz_snd]; exact q3.frz hd)
  | tbl q1 q2 => exact .tbl q1 q2
theorem fpN_frz (x : Addr × Nd) : fpN (x.1, frzN n a d x.2) = fpN x := by
  obtain ⟨b, nd⟩ := x
  cases nd <;> rfl
theorem fp_frz (G : Gh) : fp (G.map fun x => (x.1, frzN n a d x.2)) = fp G := by
  unfold fp
  rw [List.flatMap_map]
  congr 1
  funext x
  exact fpN_frz x
theorem fp_kill {G : Gh} {nd : Nd} (h : G[n]? = some (a, nd)) : (fp (G.set n (a, .dead))).Sublist (fp G) := by
  unfold fp
  induction G generalizing n with
  | nil => exact List.Sublist.refl _
  | cons x G ih =>
    cases n with
    | zero =>
      simp only [List.set_cons_zero, List.flatMap_cons, fpN, List.nil_append]
      exact List.sublist_append_right _ _
    | succ n =>
      simp only [List.set_cons_succ, List.flatMap_cons]
      exact List.Sublist.append (List.Sublist.refl _) (ih (by simpa using h))
/-- a frozen object more, at an address of our own -/
theorem Ok.freezeN {p : Addr} {o : HO} (k : Ok K e F r s H) (h : H p = some o) (hF : F p = none) (hP : e.P p = none) (hb : NB r s p) : Ok K e (upd F p o) r s H where
  len := k.len
  sub := fun a u q => by
    by_cases z : a = p
    · subst z; rw [upd_same] at q; cases q; exact h
    · rw [upd_ne z] at q; exact k.sub a u q
  f0 := k.f0.trans (Sub.new hF)
  prot := k.prot
  new := fun a u q => by
    by_cases z : a = p
    · subst z; exact .inr (.inl hP)
    · rw [upd_ne z] at q; exact k.new a u q
  dom := k.dom
  slot := fun i d z => by
    obtain ⟨v, h1, h2⟩ := k.slot i d z
    exact ⟨v, h1, h2.mono (Sub.new hF)⟩
  box := fun i b m z => by
    obtain ⟨q, u, h1, h2, h3, h4, h5⟩ := k.box i b m z
    have ne : q ≠ p := fun y => by subst y; exact hb.1 i b m z h1
    exact ⟨q, u, h1, h2, h3.mono (Sub.new hF), by rw [upd_ne ne]; exact h4, h5⟩
  ob := fun i ns z => by
    obtain ⟨a, g1, g2⟩ := k.ob i ns z
    exact ⟨a, g1, g2.mono (Sub.new hF)⟩
  sep := k.sep
  adr := k.adr
  gh := fun i G z => by
    obtain ⟨g1, g2, g3⟩ := k.gh i G z
    refine ⟨g1.move (Sub.new hF) (fun q _ u w => w) (fun q w => ?_) fun q w => ⟨(g1.fr q w).2.1, (g1.fr q w).2.2.1⟩, g2, g3⟩
    rw [upd_ne (fun y => by subst y; exact hb.2 i G z w)]
    exact (g1.fr q w).1
  gpF := k.gpF
theorem set_mem {α : Type} {l : List α} {i : Nat} {x y : α} (h : y ∈ l.set i x) : y = x ∨ y ∈ l := by
  rcases mem_set_of h with h | ⟨j, _, h⟩
  · exact .inl h
  · exact .inr (List.mem_of_getElem? h)
theorem Ok.frz1 {g : Nat} {G G' : Gh} (k : Ok K e F r s H) (hg : r[g]? = some (some (.gh G))) (h : FrzS G G') : ∃ F', Ok K e F' (r.set g (some (.gh G'))) s H ∧ Sub F F' := by
  cases h with
  | @one n a m hn =>
    obtain ⟨w1, w2, w3⟩ := k.gh g G hg
    have nd0 := ndOf_dead m
    obtain ⟨o, o1, o2, _⟩ := k.node hg hn nd0
    have ma : a ∈ fp G := mem_fp (x := (a, ndOf m)) (List.mem_iff_getElem?.mpr ⟨n, hn⟩) nd0
    obtain ⟨f1, f2, f3, f4⟩ := w1.fr a ma
    have sl := fp_kill hn
    have na : a ∉ fp (G.set n (a, .dead)) := fun z => by
      obtain ⟨x, hx, hq⟩ := List.mem_flatMap.mp z
      rcases mem_set_of hx with rfl | ⟨j, q1, q2⟩
      · simp [fpN] at hq
      · exact fp_apart w1.nd q2 hn q1 hq (by rw [fpN_ndOf]; exact List.mem_singleton.mpr rfl)
    -- the node is no longer one
    have k1 : Ok K e F (r.set g (some (.gh (G.set n (a, .dead))))) s H :=
      k.setGh w3 ⟨w1.nd.sublist sl, fun x hx => (by
        rcases set_mem hx with rfl | hx
        · exact .inl rfl
        · exact w1.at' x hx), fun p hp => w1.fr p (sl.subset hp)⟩ (fun j b m p z _ w hp => w2 j b m p z w (sl.subset hp)) k.sub k.prot k.dom fun _ _ _ _ _ _ _ w => w
    have hg1 : (r.set g (some (.gh (G.set n (a, .dead)))))[g]? = some (some (.gh (G.set n (a, .dead)))) := List.getElem?_set_self (List.getElem?_eq_some_iff.mp hg).1
    have nb : NB (r.set g (some (.gh (G.set n (a, .dead))))) s a := by
      refine ⟨fun i b m' z y => ?_, fun i G0 z => ?_⟩
      · rcases get_set z with ⟨_, q⟩ | ⟨_, q⟩
        · cases q
        · exact w2 i b m' a q y ma
      · rcases get_set z with ⟨_, q⟩ | ⟨q1, q⟩
        · cases q; exact na
        · exact absurd (w3 i G0 q).symm q1
    have k2 := k1.freezeN o1 f1 f2 nb
    have hd : Rp K (upd F a o) (.ref a) m.toD := o2.mo.rp (Sub.new f1) upd_same
    obtain ⟨v1, v2, v3⟩ := k2.gh g _ hg1
    refine ⟨upd F a o, ?_, Sub.new f1⟩
    have k3 := k2.setGh (G := (G.set n (a, .dead)).map fun x => (x.1, frzN n a m.toD x.2)) v3 ⟨by rw [fp_frz]; exact v1.nd, fun x hx => (by
        obtain ⟨y, hy, rfl⟩ := List.mem_map.mp hx
        rcases v1.at' y hy with z | ⟨⟨u, u1, u2⟩, u3⟩
        · exact .inl (by show frzN n a m.toD y.2 = .dead; rw [z]; rfl)
        · refine .inr ⟨⟨u, u1, u2.frz hd⟩, fun C dx fs q => ?_⟩
          obtain ⟨b, nd⟩ := y
          cases nd with
          | ins C' dx' fs' => cases q; exact u3 _ _ _ rfl
          | _ => cases q), fun p hp => (by rw [fp_frz] at hp; exact v1.fr p hp)⟩ (fun j b m' p z _ w hp => (by rw [fp_frz] at hp; exact v2 j b m' p z w hp)) k2.sub k2.prot k2.dom fun _ _ _ _ _ _ _ w => w
    rw [List.set_set] at k3
    exact k3
theorem Ok.frz {g : Nat} {G G' : Gh} (h : Frz G G') : ∀ {F : Hp} {r : Rho}, Ok K e F r s H → r[g]? = some (some (.gh G)) → ∃ F', Ok K e F' (r.set g (some (.gh G'))) s H ∧ Sub F F' := by
  induction h with
  | @refl G =>
    intro F r k hg
    refine ⟨F, ?_, Sub.refl F⟩
    have : r.set g (some (.gh G)) = r := by
      refine List.ext_getElem? fun j => ?_
      by_cases q : g = j
      · subst q; rw [List.getElem?_set_self (List.getElem?_eq_some_iff.mp hg).1, hg]
      · rw [List.getElem?_set_ne q]
    rw [this]; exact k
  | step h1 _ ih =>
    intro F r k hg
    obtain ⟨F1, k1, q1⟩ := k.frz1 hg h1
    obtain ⟨F2, k2, q2⟩ := ih k1 (List.getElem?_set_self (List.getElem?_eq_some_iff.mp hg).1)
    rw [List.set_set] at k2
    exact ⟨F2, k2, q1.trans q2⟩
end
theorem Frz.trans {G G1 G2 : Gh} (h : Frz G G1) (h2 : Frz G1 G2) : Frz G G2 := by
  induction h with
  | refl => exact h2
  | step a _ ih => exact .step a (ih h2)
end DL
namespace DL
open PySem L2 PyProof.Rows
end DL
namespace DL
open PySem L2 PyProof.Rows
def bxIs (r : Rho) (b : Nat) (ds : List D) (Q : Prop) : Prop := match r[b]? with
  | some (some (.box _ (.L ds'))) => ds' = ds ∧ Q
  | _ => False
theorem bxIs.ex {r : Rho} {b : Nat} {ds : List D} {Q : Prop} (h : bxIs r b ds Q) : (∃ f, r[b]? = some (some (.box f (.L ds)))) ∧ Q := by
  unfold bxIs at h
  split at h
  · rename_i f ds' e
    obtain ⟨rfl, q⟩ := h
    exact ⟨⟨f, e⟩, q⟩
  · exact h.elim
end DL
namespace DL
open PySem L2 PyProof.Rows
end DL
namespace DL
open PySem L2 PyProof.Rows
def ZSt (z TI TO i1 i2 l1 l2 S : Addr) (xs ys : Array Value) (i : Nat) (h : Heap) : Prop :=
  IsPair h TI (.ref i1) (.ref i2) ∧ h.IsListIter i1 l1 i ∧ h.IsListIter i2 l2 i ∧ h.IsList l1 xs ∧ h.IsList l2 ys ∧
  ((IsZip h z TI TO .none ∧ ∃ a b, IsPair h TO a b) ∨ ∃ T f oT, IsZipHeld h z TI TO T f ∧ h.get? T = some oT ∧ T ≠ z ∧ T ≠ i1 ∧ T ≠ i2 ∧ T ≠ S)
theorem ZSt.keep {z TI TO i1 i2 l1 l2 S : Addr} {xs ys : Array Value} {i : Nat} {h h' : Heap} (O : ∀ b ∈ [z, TI, TO, i1, i2, l1, l2], b < S) (st : ZSt z TI TO i1 i2 l1 l2 S xs ys i h) (hk : ∀ b o, b ≠ S → h.get? b = some o → h'.get? b = some o) : ZSt z TI TO i1 i2 l1 l2 S xs ys i h' := by
  obtain ⟨hTI, h1, h2, hl1, hl2, hz⟩ := st
  have ne : ∀ b ∈ [z, TI, TO, i1, i2, l1, l2], b ≠ S := fun b hb => Nat.ne_of_lt (O b hb)
  refine ⟨hk _ _ (ne TI (by simp)) hTI, h1.at fun o e => hk _ o (ne i1 (by simp)) e, h2.at fun o e => hk _ o (ne i2 (by simp)) e, hl1.at fun o e => hk _ o (ne l1 (by simp)) e, hl2.at fun o e => hk _ o (ne l2 (by simp)) e, ?_⟩
  rcases hz with ⟨hz, a, b, hTO⟩ | ⟨T, f, oT, hz, hT, r1, r2, r3, r4⟩
  · exact .inl ⟨hk _ _ (ne z (by simp)) hz, a, b, hk _ _ (ne TO (by simp)) hTO⟩
  · exact .inr ⟨T, f, oT, hk _ _ (ne z (by simp)) hz, hk _ _ r4 hT, r1, r2, r3, r4⟩
structure ZG (xs ys : Array Value) (lo : Addr) (h : Heap) (as : List Addr) : Prop where
  rise : as.Pairwise (· < ·)
  above : ∀ a ∈ as, lo < a
  pairs : ∀ (j : Nat) (a : Addr), as[j]? = some a → ∃ x y, xs[j]? = some x ∧ ys[j]? = some y ∧ h.get? a = some { cls := .type "tuple", data := .seq #[x, y] }
theorem ZG.there {xs ys : Array Value} {lo : Addr} {h : Heap} {as : List Addr} (g : ZG xs ys lo h as) {a : Addr} (ha : a ∈ as) : a < h.objs.size := by
  obtain ⟨j, hj⟩ := List.mem_iff_getElem?.mp ha
  obtain ⟨_, _, _, _, e⟩ := g.pairs j a hj
  exact Heap.lt_size e
end DL
namespace DL
open PySem L2 PyProof.Rows
end DL
namespace DL
open PySem L2 PyProof.Rows
end DL
namespace DL
open PySem L2 PyProof.Rows
end DL
namespace DL
open PySem L2 PyProof.Rows
end DL
namespace DL
open PySem L2 PyProof.Rows
end DL
namespace DL
open PySem L2 PyProof.Rows
end DL
namespace DL
open PySem L2 PyProof.Rows PpSet
end DL
namespace DL
open PySem L2 PyProof.Rows
open AutoSeq1 (wpAny_loadPart')
def tpOf : D → Option (List D)
  | .tuple ds => some ds
  | _ => none
end DL
namespace DL
open PySem L2 PyProof.Rows
end DL
namespace DL
open PySem PySem.Spec L2 PyProof.Rows PpSet
end DL
namespace DL
open PySem L2 PyProof.Rows
open AutoSeq1 (wpAny_loadPart')
end DL
namespace DL
open PySem L2 PyProof.Rows
structure HdN where
  xs : List Str
  i : Nat
  j : Nat
  tl : Option (Nat × Str × Str × Str)
def HdN.after (h : HdN) (C : Str) (fs : List (Str × D)) (r : Rho) (P : Rho → Prop) : Prop := match h.tl with
  | none => rqB (decide (h.i < r.length)) (strict (((r.set h.i (some (.ob (.exc C fs)))).set h.j (some (.ob (.exc C fs)))).set h.i none) P)
  | some (k, w, f, x) => rqB (decide (C = x) && (decide (h.j ≠ h.i) && decide (h.i < r.length))) (onO (fs.lookup f) fun d => strict ((((r.set h.i (some (.ob (.exc C fs)))).set h.j (some (.ob (.exc C fs)))).set k (some (.val (.tuple [.str w, d])))).set h.i none) P)
end DL
namespace DL
open PySem L2 PyProof.Rows
end DL
namespace DL
open PySem L2 PyProof.Rows
section
variable {K : Fg} {e : En} {F : Hp} {r : Rho} {s : L2.St} {H H' : Hp}
theorem un_get {r : Rho} {x i : Nat} {c : Ce} (z : (r.set x none)[i]? = some (some c)) : x ≠ i ∧ r[i]? = some (some c) := by
  by_cases q : x = i
  · subst q
    have hl : x < r.length := by simpa using (List.getElem?_eq_some_iff.mp z).1
    rw [List.getElem?_set_self hl] at z
    cases z
  · rw [List.getElem?_set_ne q] at z
    exact ⟨q, z⟩
theorem Ok.unset {x : Nat} {v : V} (k : Ok K e F r s H) : Ok K e F (r.set x none) (s.set x (some v)) H where
  len := by rw [List.length_set, List.length_set]; exact k.len
  sub := k.sub
  f0 := k.f0
  prot := k.prot
  new := k.new
  dom := k.dom
  slot := fun i d z => by
    obtain ⟨n, z⟩ := un_get z
    rw [List.getElem?_set_ne n]
    exact k.slot i d z
  box := fun i b m z => by
    obtain ⟨n, z⟩ := un_get z
    rw [List.getElem?_set_ne n]
    exact k.box i b m z
  ob := fun i o z => by
    obtain ⟨n, z⟩ := un_get z
    rw [List.getElem?_set_ne n]
    exact k.ob i o z
  sep := fun i j p b m b' m' z z' y y' => by
    obtain ⟨n, z⟩ := un_get z
    obtain ⟨n', z'⟩ := un_get z'
    rw [List.getElem?_set_ne n] at y
    rw [List.getElem?_set_ne n'] at y'
    exact k.sep i j p b m b' m' z z' y y'
  adr := fun i n a z => by
    obtain ⟨n, z⟩ := un_get z
    rw [List.getElem?_set_ne n]
    exact k.adr i _ a z
  gh := fun i G z => by
    obtain ⟨n, z⟩ := un_get z
    obtain ⟨g1, g2, g3⟩ := k.gh i G z
    refine ⟨g1, fun j b m p z2 w => ?_, fun j G' z2 => ?_⟩
    · obtain ⟨n2, z2⟩ := un_get z2
      rw [List.getElem?_set_ne n2] at w
      exact g2 j b m p z2 w
    · exact g3 j G' (un_get z2).2
  gpF := k.gpF
end
end DL
namespace DL
open PySem L2 PyProof.Rows
end DL
namespace DL
open PySem L2 PyProof.Rows
mutual
def wtE : D → Nat
  | .none => 5
  | .bool _ => 6
  | .int _ => 80
  | .str x => 10 * x.length + 2
  | .list xs => wtsE xs + 4
  | .tuple xs => wtsE xs + 4
  | .dict kvs => wtkE kvs + 4
def wtsE : List D → Nat
  | [] => 0
  | d :: ds => wtE d + 2 + wtsE ds
def wtkE : List (D × D) → Nat
  | [] => 0
  | (a, b) :: r => wtE a + wtE b + 4 + wtkE r
end
mutual
/-- the same for greater numbers -/
def okE : D → Prop
  | .none => True
  | .bool _ => True
  | .int i => -10000000000000000000000000000000000000000000000000000000000000000000000 < i ∧ i < 10000000000000000000000000000000000000000000000000000000000000000000000
  | .str x => okS x
  | .list xs => okEs xs
  | .tuple xs => okEs xs
  | .dict kvs => okEk kvs
def okEs : List D → Prop
  | [] => True
  | d :: ds => okE d ∧ okEs ds
def okEk : List (D × D) → Prop
  | [] => True
  | (a, b) :: r => okE a ∧ okE b ∧ okEk r
end
theorem okEs_iff : ∀ {ds : List D}, okEs ds ↔ ∀ d ∈ ds, okE d
  | [] => by simp [okEs]
  | d :: ds => by simp [okEs, okEs_iff (ds := ds)]
theorem int_lenE {i : Int} (h : -10000000000000000000000000000000000000000000000000000000000000000000000 < i ∧ i < 10000000000000000000000000000000000000000000000000000000000000000000000) : (toString i : String).length ≤ 71 := by
  have hlt : i.natAbs < 10 ^ 70 := by
    have : (10 : Nat) ^ 70 = 10000000000000000000000000000000000000000000000000000000000000000000000 := by decide
    omega
  have e := (Nat.length_repr_le_iff (n := i.natAbs) (by decide : 0 < 70)).mpr hlt
  cases i with
  | ofNat m =>
    have e2 : (toString (Int.ofNat m) : String) = Nat.repr m := rfl
    rw [e2]
    have : m = (Int.ofNat m).natAbs := rfl
    rw [this]; omega
  | negSucc m =>
    have e2 : (toString (Int.negSucc m) : String) = "-" ++ Nat.repr (m + 1) := rfl
    rw [e2, String.length_append]
    have : m + 1 = (Int.negSucc m).natAbs := rfl
    rw [this]
    have : ("-" : String).length = 1 := rfl
    omega
mutual
theorem shown_leE : ∀ d : D, okE d → d.shown.length ≤ wtE d
  | .none, _ => by decide
  | .bool b, _ => by cases b <;> decide
  | .int i, h => by
    have := int_lenE h
    show ((toString i : String) : Str).length ≤ 80
    rw [str_len]; omega
  | .str x, h => by
    have := StrLaws.reprText_len x fun c hc => Nat.lt_of_lt_of_le (h c hc) (by decide)
    show (reprText x).length ≤ 10 * x.length + 2
    exact this
  | .list xs, h => by
    have := shownAll_leE xs h
    show (textFrom 0 "[" (PyData.shownAll xs) ++ ("]" : Str)).length ≤ wtsE xs + 4
    have t := textFromL (PyData.shownAll xs) 0 ("[" : Str)
    rw [app_len, show (Str.ofString "]").length = 1 from rfl]
    rw [show (Str.ofString "[").length = 1 from rfl] at t
    omega
  | .tuple xs, h => by
    have := shownAll_leE xs h
    show (("(" : Str) ++ Str.join ", " (PyData.shownAll xs) ++ (if (PyData.shownAll xs).length == 1 then ",)" else ")" : String)).length ≤ wtsE xs + 4
    have t := joinL ", " (PyData.shownAll xs)
    have h2 : ((if (PyData.shownAll xs).length == 1 then ",)" else ")" : String) : Str).length ≤ 2 := by
      split
      · decide
      · decide
    rw [app_len, app_len, show (Str.ofString "(").length = 1 from rfl]
    rw [show (Str.ofString ", ").length = 2 from rfl] at t
    omega
  | .dict kvs, h => by
    have := shownKv_leE kvs h
    show (("{" : Str) ++ Str.join ", " (PyData.shownKv kvs) ++ ("}" : Str)).length ≤ wtkE kvs + 4
    have t := joinL ", " (PyData.shownKv kvs)
    rw [app_len, app_len, show (Str.ofString "{").length = 1 from rfl, show (Str.ofString "}").length = 1 from rfl]
    rw [show (Str.ofString ", ").length = 2 from rfl] at t
    omega
theorem shownAll_leE : ∀ ds : List D, okEs ds → ((PyData.shownAll ds).map fun t => t.length + 2).sum ≤ wtsE ds
  | [], _ => by simp [PyData.shownAll, wtsE]
  | d :: ds, h => by
    have h1 := shown_leE d h.1
    have h2 := shownAll_leE ds h.2
    simp only [PyData.shownAll, wtsE, List.map_cons, List.sum_cons]
    omega
theorem shownKv_leE : ∀ ds : List (D × D), okEk ds → ((PyData.shownKv ds).map fun t => t.length + 2).sum ≤ wtkE ds
  | [], _ => by simp [PyData.shownKv, wtkE]
  | (a, b) :: ds, h => by
    have h1 := shown_leE a h.1
    have h3 := shown_leE b h.2.1
    have h2 := shownKv_leE ds h.2.2
    simp only [PyData.shownKv, wtkE, List.map_cons, List.sum_cons]
    rw [app_len, app_len, show (Str.ofString ": ").length = 2 from rfl]
    omega
end
theorem log_leE {i : Int} (h : -10000000000000000000000000000000000000000000000000000000000000000000000 < i ∧ i < 10000000000000000000000000000000000000000000000000000000000000000000000) : i.natAbs.log2 < 1920 := by
  by_cases z : i.natAbs = 0
  · rw [z]; decide
  · have h1 : i.natAbs < 2 ^ 240 := by
      have : (2 : Nat) ^ 240 = 1766847064778384329583297500742918515827483896875618958121606201292619776 := by decide
      omega
    have := (Nat.log2_lt z).mpr h1
    omega
mutual
theorem ok_showableE : ∀ d : D, okE d → d.showable = true
  | .none, _ => rfl
  | .bool b, _ => rfl
  | .int i, h => decide_eq_true (log_leE h)
  | .str x, _ => rfl
  | .list xs, h => ok_showableAllE xs h
  | .tuple xs, h => ok_showableAllE xs h
  | .dict kvs, h => ok_showableKvE kvs h
theorem ok_showableAllE : ∀ d : List D, okEs d → PyData.showableAll d = true
  | [], _ => rfl
  | d :: ds, h => by
    rw [PyData.showableAll, ok_showableE d h.1, ok_showableAllE ds h.2]; rfl
theorem ok_showableKvE : ∀ d : List (D × D), okEk d → PyData.showableKv d = true
  | [], _ => rfl
  | (a, b) :: ds, h => by
    rw [PyData.showableKv, ok_showableE a h.1, ok_showableE b h.2.1, ok_showableKvE ds h.2.2]; rfl
end
theorem reprE_ok {d : D} (h : okE d) (h1 : wtE d ≤ 16777216) (h2 : d.depth ≤ 64) : reprOkS d = true := by
  have := shown_leE d h
  have e : sizeLine = 16777216 := sizeLine_eq
  unfold reprOkS
  rw [ok_showableE d h, decide_eq_true (by omega : d.shown.length ≤ sizeLine), decide_eq_true h2]; rfl
mutual
theorem okE_of : ∀ d : D, okD d → okE d
  | .none, _ => trivial
  | .bool _, _ => trivial
  | .int i, h => by
    have h : -100000000000000000000000000000000000000000000000000 < i ∧ i < 100000000000000000000000000000000000000000000000000 := h
    exact ⟨by omega, by omega⟩
  | .str x, h => h
  | .list xs, h => okEs_of xs h
  | .tuple xs, h => okEs_of xs h
  | .dict kvs, h => okEk_of kvs h
theorem okEs_of : ∀ ds : List D, okDs ds → okEs ds
  | [], _ => trivial
  | d :: ds, h => ⟨okE_of d h.1, okEs_of ds h.2⟩
theorem okEk_of : ∀ ds : List (D × D), okDk ds → okEk ds
  | [], _ => trivial
  | (a, b) :: r, h => ⟨okE_of a h.1, okE_of b h.2.1, okEk_of r h.2.2⟩
end
mutual
theorem wtE_of : ∀ d : D, wtE d ≤ 2 * wt d
  | .none => by simp only [wt, wtE]; omega
  | .bool _ => by simp only [wt, wtE]; omega
  | .int _ => by simp only [wt, wtE]; omega
  | .str x => by simp only [wt, wtE]; omega
  | .list xs => by have := wtsE_of xs; simp only [wt, wtE]; omega
  | .tuple xs => by have := wtsE_of xs; simp only [wt, wtE]; omega
  | .dict kvs => by have := wtkE_of kvs; simp only [wt, wtE]; omega
theorem wtsE_of : ∀ ds : List D, wtsE ds ≤ 2 * wts ds
  | [] => by simp only [wts, wtsE]; omega
  | d :: ds => by have := wtE_of d; have := wtsE_of ds; simp only [wts, wtsE]; omega
theorem wtkE_of : ∀ ds : List (D × D), wtkE ds ≤ 2 * wtk ds
  | [] => by simp only [wtk, wtkE]; omega
  | (a, b) :: r => by have := wtE_of a; have := wtE_of b; have := wtkE_of r; simp only [wtk, wtkE]; omega
end
/-- a thing that repr tells, with how long and how deep it is -/
structure Be (n k : Nat) (d : D) : Prop where
  ok : okE d
  wt : wtE d ≤ n
  dp : d.depth ≤ k
theorem Be.mono {n k n' k' : Nat} {d : D} (h : Be n k d) (h1 : n ≤ n') (h2 : k ≤ k') : Be n' k' d := ⟨h.ok, Nat.le_trans h.wt h1, Nat.le_trans h.dp h2⟩
theorem Be.of {d : D} {n k : Nat} (h : okD d) (h1 : 2 * DL.wt d ≤ n) (h2 : d.depth ≤ k) : Be n k d := ⟨okE_of d h, Nat.le_trans (wtE_of d) h1, h2⟩
theorem Be.tup {ds : List D} {n k : Nat} (h : ∀ d ∈ ds, okE d ∧ d.depth ≤ k) (h1 : wtsE ds + 4 ≤ n) : Be n (k + 1) (.tuple ds) := by
  refine ⟨okEs_iff.mpr fun d hd => (h d hd).1, h1, ?_⟩
  have := depthAll_le.mpr fun d hd => (h d hd).2
  simp only [PyData.depth]; omega
theorem Be.lst {ds : List D} {n k : Nat} (h : ∀ d ∈ ds, okE d ∧ d.depth ≤ k) (h1 : wtsE ds + 4 ≤ n) : Be n (k + 1) (.list ds) := by
  refine ⟨okEs_iff.mpr fun d hd => (h d hd).1, h1, ?_⟩
  have := depthAll_le.mpr fun d hd => (h d hd).2
  simp only [PyData.depth]; omega
theorem Be.repr {n k : Nat} {d : D} (h : Be n k d) (h1 : n ≤ 16777216) (h2 : k ≤ 64) : reprOkS d = true := reprE_ok h.ok (Nat.le_trans h.wt h1) (Nat.le_trans h.dp h2)
end DL
namespace DL
open PySem L2 PyProof.Rows
theorem KT.at' {H : Hp} : ∀ {kvs : List (List Key × V)} {xs : List (List Key × Addr × Value)}, KT H kvs xs → ∀ x ∈ xs, ∃ ks : List Key, H x.2.1 = some (.tup (ks.map kV))
  | [], [], .nil, x, hx => nomatch hx
  | p :: _, q :: _, .cons h t, x, hx => by
    rcases List.mem_cons.mp hx with rfl | hx
    · exact ⟨p.1, h.2.1⟩
    · exact KT.at' t x hx
end DL
namespace DL
open PySem L2 PyProof.Rows
end DL
namespace DL
open PySem L2 PyProof.Rows
section
variable {prog : Program} {w : World} {A : Around} {E : Value → Shared → Prop} {s : Shared} {z TI TO i1 i2 i3 : Addr} {fp1 fp2 fp3 : List Addr} {n1 n2 n3 i : Nat} {P1 P2 P3 : Nat → Value → Prop} {St1 St2 St3 : Nat → Heap → Prop}
/-- the state of the walk -/
def ZSt3 (z TI TO i1 i2 i3 S : Addr) (St1 St2 St3 : Nat → Heap → Prop) (i : Nat) (h : Heap) : Prop :=
  IsTupOf3 h TI (.ref i1) (.ref i2) (.ref i3) ∧ St1 i h ∧ St2 i h ∧ St3 i h ∧
  ((IsZip h z TI TO .none ∧ ∃ a b c, IsTupOf3 h TO a b c) ∨ ∃ T f oT, IsZipHeld h z TI TO T f ∧ h.get? T = some oT ∧ T ≠ z ∧ T ≠ i1 ∧ T ≠ i2 ∧ T ≠ i3 ∧ T ≠ S)
/-- how the three are drawn from, in any surroundings -/
structure Dr3 (prog : Program) (w : World) (i1 i2 i3 : Addr) (fp1 fp2 fp3 : List Addr) (n1 n2 n3 : Nat) (P1 P2 P3 : Nat → Value → Prop) (St1 St2 St3 : Nat → Heap → Prop) : Prop where
  d1 : ∀ A : Around, A.handled = none → Draws prog w A i1 fp1 n1 P1 St1
  d2 : ∀ A : Around, A.handled = none → Draws prog w A i2 fp2 n2 P2 St2
  d3 : ∀ A : Around, A.handled = none → Draws prog w A i3 fp3 n3 P3 St3
  hA : ∃ A : Around, A.handled = none
abbrev zAll (z TI TO : Addr) (fp1 fp2 fp3 : List Addr) : List Addr := z :: TI :: TO :: (fp1 ++ fp2 ++ fp3)
theorem ZSt3.keep {S : Addr} {h h' : Heap} (D : Dr3 prog w i1 i2 i3 fp1 fp2 fp3 n1 n2 n3 P1 P2 P3 St1 St2 St3) (O : ∀ b ∈ zAll z TI TO fp1 fp2 fp3, b < S) (st : ZSt3 z TI TO i1 i2 i3 S St1 St2 St3 i h) (hk : ∀ b o, b ≠ S → h.get? b = some o → h'.get? b = some o) : ZSt3 z TI TO i1 i2 i3 S St1 St2 St3 i h' := by
  obtain ⟨hTI, h1, h2, h3, hz⟩ := st
  obtain ⟨A, hh⟩ := D.hA
  have ne : ∀ b ∈ zAll z TI TO fp1 fp2 fp3, b ≠ S := fun b hb => Nat.ne_of_lt (O b hb)
  refine ⟨hk _ _ (ne TI (by simp)) hTI, (D.d1 A hh).frame _ _ _ h1 fun b hb o e => hk b o (ne b (by simp [hb])) e, (D.d2 A hh).frame _ _ _ h2 fun b hb o e => hk b o (ne b (by simp [hb])) e, (D.d3 A hh).frame _ _ _ h3 fun b hb o e => hk b o (ne b (by simp [hb])) e, ?_⟩
  rcases hz with ⟨hz, a, b, c, hTO⟩ | ⟨T, f, oT, hz, hT, r1, r2, r3, r4, r5⟩
  · exact .inl ⟨hk _ _ (ne z (by simp)) hz, a, b, c, hk _ _ (ne TO (by simp)) hTO⟩
  · exact .inr ⟨T, f, oT, hk _ _ (ne z (by simp)) hz, hk _ _ r5 hT, r1, r2, r3, r4, r5⟩
structure ZG3 (P1 P2 P3 : Nat → Value → Prop) (lo : Addr) (h : Heap) (as : List Addr) : Prop where
  rise : as.Pairwise (· < ·)
  above : ∀ a ∈ as, lo < a
  pairs : ∀ (j : Nat) (a : Addr), as[j]? = some a → ∃ x y v, P1 j x ∧ P2 j y ∧ P3 j v ∧ h.get? a = some { cls := .type "tuple", data := .seq #[x, y, v] }
theorem ZG3.there {lo : Addr} {h : Heap} {as : List Addr} (g : ZG3 P1 P2 P3 lo h as) {a : Addr} (ha : a ∈ as) : a < h.objs.size := by
  obtain ⟨j, hj⟩ := List.mem_iff_getElem?.mp ha
  obtain ⟨_, _, _, _, _, _, e⟩ := g.pairs j a hj
  exact Heap.lt_size e
end
end DL
namespace DL
open PySem L2 PyProof.Rows
end DL
namespace DL
open PySem L2 PyProof.Rows
end DL
namespace DL
open PySem L2 PyProof.Rows
end DL
namespace DL
open PySem L2 PyProof.Rows
end DL
namespace DL
open PySem L2 PyProof.Rows
end DL
namespace DL
open PySem L2 PyProof.Rows
end DL
namespace DL
open PySem L2 PyProof.Rows PpSet
end DL
namespace DL
open PySem L2 PyProof.Rows
end DL
namespace DL
open PySem L2 PyProof.Rows
end DL
namespace DL
open PySem L2 PyProof.Rows
end DL
namespace DL
open PySem
open Sem (wp)
open PyProof.Rows
end DL
namespace DL
open PySem L2 PyProof.Rows
end DL
namespace DL
open PySem L2 PyProof.Rows
section
variable {X : Cx}
instance decMul (i j : Int) : Decidable (IntMulOk i j) := by unfold IntMulOk; infer_instance
end
section
variable {K : Fg} {e : En} {F : Hp} {r : Rho} {s : L2.St} {H : Hp}
theorem Ok.drop {x : Nat} (k : Ok K e F r s H) : Ok K e F (r.set x none) s H := by
  by_cases hx : x < s.length
  · cases hv : s[x] with
    | none =>
      have e1 : ∀ (j : Nat) (c : Ce), (r.set x none)[j]? = some (some c) → x ≠ j ∧ r[j]? = some (some c) := fun j c z => un_get z
      refine ⟨by rw [List.length_set]; exact k.len, k.sub, k.f0, k.prot, k.new, k.dom, fun i d z => k.slot i d (e1 _ _ z).2, fun i b m z => k.box i b m (e1 _ _ z).2, fun i o z => k.ob i o (e1 _ _ z).2, fun i j p b m b' m' z z' y y' => k.sep i j p b m b' m' (e1 _ _ z).2 (e1 _ _ z').2 y y', fun i n a z => k.adr i n a (e1 _ _ z).2, fun i G z => ?_, k.gpF⟩
      obtain ⟨g1, g2, g3⟩ := k.gh i G (e1 _ _ z).2
      exact ⟨g1, fun j b m p z' => g2 j b m p (e1 _ _ z').2, fun j G' z' => g3 j G' (e1 _ _ z').2⟩
    | some v =>
      have := k.unset (x := x) (v := v)
      have e : s.set x (some v) = s := by
        rw [← hv]
        exact List.set_getElem_self hx
      rwa [e] at this
  · have : r.set x none = r := List.set_eq_of_length_le (by have := k.len; omega)
    rw [this]; exact k
end
end DL
namespace DL
open PySem L2 PyProof.Rows
end DL
namespace DL
open PySem L2 PyProof.Rows
end DL
namespace DL
open PySem L2 PyProof.Rows PySem.Spec
/-- what stands behind a clause's tests, over the frame Y: it ends where Nx holds, its own slots vs forgotten -/
def CB (Y : Cx) (nxt : (Shared → Prop) → Shared → Prop) (vs : List Nat) (t : L2.St → Hp → (Hp → Prop) → Prop) : Prop :=
  ∀ (pins : List (Addr × Obj)) (s : Shared) (σ : L2.St) (H : Hp) (Nx : Hp → Prop) (P : Shared → Prop), L2.Inv Y pins σ H s → t σ H Nx → (∀ s' H', L2.Inv Y pins (wipe σ vs) H' s' → Nx H' → P s') → nxt P s
end DL
namespace DL
open PySem L2 PyProof.Rows PySem.Spec
end DL
namespace DL
open PySem L2 PyProof.Rows PySem.Spec
theorem CB.imp {Y : Cx} {nxt : (Shared → Prop) → Shared → Prop} {vs : List Nat} {t u : L2.St → Hp → (Hp → Prop) → Prop} (h : CB Y nxt vs t) (i : ∀ s H Q, u s H Q → t s H Q) : CB Y nxt vs u := fun pins s σ H Nx P I q hP => h pins s σ H Nx P I (i _ _ _ q) hP
end DL
namespace DL
open PySem L2 PyProof.Rows
end DL
namespace DL
open PySem L2 PyProof.Rows
end DL
namespace DL
open PySem L2 PyProof.Rows
end DL
namespace DL
open PySem L2 PyProof.Rows
def clOk : Value → Bool
  | .ref _ => true
  | .type _ => true
  | _ => false
/-- own classes and builtin ones, by name -/
inductive MxEs (X : Cx) : List Expr → List Value → Prop
  | nil : MxEs X [] []
  | own {x : Str} {p : Pos} {es : List Expr} {l : List Value} : Gl X x → X.mg x = some (.ref (He.ga X.K x)) → (x == ("__debug__" : Str)) = false → starEach (.Name x p :: es) X.env = (false, eval (.Name x p) X.env) :: starEach es X.env → MxEs X es l → MxEs X (.Name x p :: es) (.ref (He.ga X.K x) :: l)
  | blt {x : Str} {T : String} {p : Pos} {es : List Expr} {l : List Value} : Gl X x → X.mg x = none → bootBuiltins x = some (.type T) → x ≠ "__name__" → (x == ("__debug__" : Str)) = false → starEach (.Name x p :: es) X.env = (false, eval (.Name x p) X.env) :: starEach es X.env → MxEs X es l → MxEs X (.Name x p :: es) (.type T :: l)
theorem MxEs.ok {X : Cx} {es : List Expr} {l : List Value} (h : MxEs X es l) : l.all clOk = true := by
  induction h with
  | nil => rfl
  | own _ _ _ _ _ ih => exact ih
  | blt _ _ _ _ _ _ _ ih => exact ih
end DL
namespace DL
open PySem L2 PyProof.Rows
end DL
namespace DL
open PySem L2 PyProof.Rows
end DL
namespace DL
open PySem L2 PyProof.Rows
section
variable {X : Cx} {a : Expr} {st : Stmt} {sa sb : List Stmt} {m n : MX} {p pos : Pos}
theorem sx_ifN (ha : EX X a m) (he : ∀ whole, isTrue a X.env whole = (do let v ← whole; standAt a.pos; holding [v] (truthy v)) := by intro _; rfl) : SX X (.If (.UnaryOp .Not a p) sa sb pos) m := fun e W tk =>
  PS.imp (ps_if (pt_not (pt_val (ha e W tk) he)) pss_never pss_never) fun D s H h => h
end
end DL
namespace DL
open PySem L2 PyProof.Rows
section
variable {K : Fg} {e : En} {F : Hp} {r : Rho} {s : L2.St} {H : Hp}
theorem callG_ok {g : Nat} {xs : List R} {vs : List V} {as as1 : List Ar} {G G' : Gh} {r2 : Rho} {F' H' : Hp} (t : RTs K F s xs vs) (k : Ok K e F r s H) (ho : once (borSlots xs) = true) (ea : arsOf r xs = some as) (hg : r[g]? = some (some (.gh G)))
    (d : Did K F H (as ++ [.gh G]) vs F' H' (as1 ++ [.gh G'])) (e2 : backArs r xs as1 = some r2) : Ok K e F' (r2.set g (some (.gh G'))) s H' := by
  obtain ⟨ha, hb⟩ := t.ars k ea
  obtain ⟨w1, w2, w3⟩ := k.gh g G hg
  have ng := arsOf_nogh ea
  have nbx : noBx r g := fun b m z => by rw [hg] at z; cases z
  obtain ⟨l2, b1, b2⟩ := backArs_get ho e2
  have hlen : as1.length = as.length := by
    have := d.len
    simpa using this
  obtain ⟨G2, d1, d2, d3, d4⟩ := d.gh as.length G (by simp)
  have eG : G2 = G' := by
    rw [← hlen] at d1
    simp at d1
    exact d1.symm
  subst eG
  have bx : ∀ (i : Nat) b m, r2[i]? = some (some (Ce.box b m)) → ∃ m0, r[i]? = some (some (Ce.box b m0)) := fun i b m z => by
    by_cases hi : i ∈ borSlots xs
    · obtain ⟨j, ej⟩ := borSlots_ix hi
      obtain ⟨b1, m1, m1', w1, w2, w3⟩ := b2 j i ej
      rw [w3] at z
      cases z
      exact ⟨m1, w1⟩
    · rw [b1 i hi] at z; exact ⟨m, z⟩
  have gx : ∀ (i : Nat) G', r2[i]? = some (some (Ce.gh G')) → i = g := fun i G' z => by
    by_cases hi : i ∈ borSlots xs
    · obtain ⟨j, ej⟩ := borSlots_ix hi
      obtain ⟨_, _, _, _, _, w3⟩ := b2 j i ej
      rw [w3] at z
      cases z
    · rw [b1 i hi] at z; exact w3 i G' z
  have k1 : Ok K e F' (r2.set g none) s H' := by
    refine call_okG t (k.dropGh (g := g)) ho ((arsOf_set nbx xs).trans ea) d (backArs_set nbx e2) (fun j m => box_snoc) (fun j m z => box_snoc.mpr z) fun p ig => ?_
    · have hp := isGh_snoc ng ig
      refine ⟨(w1.fr p hp).2.1, fun i b m z y => ?_, fun i G0 z => ?_⟩
      · rcases get_set z with ⟨_, q⟩ | ⟨_, q⟩
        · cases q
        · exact w2 i b m p q y hp
      · rcases get_set z with ⟨_, q⟩ | ⟨q1, q⟩
        · cases q
        · exact absurd (w3 i G0 q).symm q1
  have k2 : Ok K e F' ((r2.set g none).set g (some (.gh G2))) s H' := by
    refine k1.setGh (fun j G0 z => ?_) ⟨d2.nd, d2.at', fun p hp => ?_⟩ (fun j b m p z _ w hp => ?_) k1.sub k1.prot k1.dom fun _ _ _ _ _ _ _ w => w
    · rcases get_set z with ⟨_, q⟩ | ⟨_, q⟩
      · cases q
      · exact gx j G0 q
    · refine ⟨(d2.fr p hp).1, ?_, ?_, (d2.fr p hp).2⟩
      · rcases d3 p hp with y | y
        · exact (w1.fr p y).2.1
        · exact (k.free y).2.1
      · rcases d3 p hp with y | y
        · exact (w1.fr p y).2.2.1
        · exact fun z => absurd z (k.free y).2.2
    · rcases get_set z with ⟨_, q⟩ | ⟨_, q⟩
      · cases q
      · obtain ⟨m0, z0⟩ := bx j b m q
        rcases d3 p hp with y | y
        · exact w2 j b m0 p z0 w y
        · obtain ⟨p', o', u1, u2, _⟩ := k.box j b m0 z0
          rw [w] at u1; cases u1
          rw [y] at u2; cases u2
  rw [List.set_set] at k2
  exact k2
theorem callGX_read {n g : Nat} {xs : List R} {vs : List V} {as : List Ar} {G : Gh} {c : CtX} {P : PoX} {W : WX} (t : RTs K F s xs vs) (k : Ok K e F r s H) (ho : once (borSlots xs) = true) (ea : arsOf r xs = some as) (hg : r[g]? = some (some (.gh G))) (hl : vs.length = n)
    (hc : c (as ++ [.gh G]) fun C fs => P C fs r) (hP : XW K e F P W) : spX K n c vs H fun cls d H' => W cls d s H' := by
  obtain ⟨ha, hb⟩ := t.ars k ea
  obtain ⟨w1, w2, w3⟩ := k.gh g G hg
  have ng := arsOf_nogh ea
  have ga : GhArg K F H G := ⟨w1.nd, w1.at', fun p hp => ⟨(w1.fr p hp).1, (w1.fr p hp).2.2.2⟩⟩
  refine ⟨F, as ++ [.gh G], hl, k.sub, ha.snoc ng ga, ⟨fun i p m e1 e2 ig => ?_, fun i j p m m' e1 e2 e3 e4 => ?_⟩, _, hc, fun C fs cls d F' H' hx did re => ?_⟩
  · obtain ⟨i1, b1, g1, g2⟩ := hb i m (box_snoc.mp e1)
    obtain ⟨v1, u1, u2⟩ := t.get g1
    rw [e2] at u1; cases u1
    cases u2 with | bor u2 =>
    exact w2 i1 b1 m p g2 u2 (isGh_snoc ng ig)
  · obtain ⟨i1, b1, g1, g2⟩ := hb i m (box_snoc.mp e1)
    obtain ⟨i2, b2, g3, g4⟩ := hb j m' (box_snoc.mp e2)
    obtain ⟨v1, u1, u2⟩ := t.get g1
    obtain ⟨v2, u3, u4⟩ := t.get g3
    rw [e3] at u1; cases u1
    rw [e4] at u3; cases u3
    cases u2 with | bor u2 =>
    cases u4 with | bor u4 =>
    have := k.sep i1 i2 p _ _ _ _ g2 g4 u2 u4
    subst this
    exact once_apart ho g1 g3
  · have k2 := callG_ok t k ho ea hg did (backArs_self ea)
    have er : r.set g (some (.gh G)) = r := by
      refine List.ext_getElem? fun j => ?_
      by_cases q : g = j
      · subst q
        rw [List.getElem?_set_self (List.getElem?_eq_some_iff.mp hg).1, hg]
      · rw [List.getElem?_set_ne q]
    rw [er] at k2
    exact hP C fs r s F' H' cls d hx k2 did.sub re
end
def KCallX (g : Nat) (c : CtX) (n : Nat) (xs : List R) (P : PoX) (r : Rho) : Prop := rqB (decide (xs.length = n)) (rqB (once (borSlots xs)) (onO (arsOf r xs) fun as => onO (ghAt r g) fun G => ClX c (as ++ [.gh G]) fun C fs => P C fs r))
theorem KCallX.read {K : Fg} {e : En} {F : Hp} {r : Rho} {s : L2.St} {H : Hp} {g n : Nat} {c : CtX} {xs : List R} {vs : List V} {P : PoX} {W : WX} (h : KCallX g c n xs P r) (t : RTs K F s xs vs) (k : Ok K e F r s H) (hP : XW K e F P W) : vs.length = n ∧ spX K n c vs H fun cls d H' => W cls d s H' := by
  obtain ⟨nn, h1⟩ := rqB.ex h
  rw [decide_eq_true_eq] at nn
  obtain ⟨ho, h2⟩ := rqB.ex h1
  obtain ⟨as, ea, h3⟩ := onO.ex h2
  obtain ⟨G, eg, h4⟩ := onO.ex h3
  have l : vs.length = n := t.length.symm.trans nn
  exact ⟨l, callGX_read t k ho ea (ghAt_of eg) l h4.h hP⟩
def mMethGX (g : Nat) (C : Str) (m : Str) (c : CtX) (n : Nat) (ma : ME) (ms : MA) : MX := fun r P => ma r fun x r1 => onN r1 g x fun nn a _ nd => onI nd fun C' _ fs => C' = C ∧ m ∉ fs.map (·.1) ∧ ms r1 fun xs r2 => KCallX g c n (.adr nn a :: xs) P r2
section
variable {X : Cx} {a b o : Expr} {es : List Expr} {ma mv : ME} {ms : MA} {p pos apos : Pos} {g j k n : Nat} {f : Addr} {C : Str} {fd : FuncData} {ps : List Str} {c : CtX} {m x : Str}
theorem meth_readGX {e : En} {s : L2.St} {H : Hp} {W : WX} (h : TX X.K e (mMethGX g C m c n ma ms) W s H) : T X.K e ma s H fun v H1 => ∃ a dx fs, v = .ref a ∧ H1 a = some (.ins (He.ga X.K C) dx fs) ∧ fs.lookup m = none ∧ TAl X.K e ms s H1 fun vs H2 => (V.ref a :: vs).length = n ∧ spX X.K n c (.ref a :: vs) H2 fun cls d H' => W cls d s H' := by
  obtain ⟨F, r, k, P, hm, hP⟩ := h
  refine ⟨F, r, k, _, hm, fun x r1 v F1 H1 hx k1 q1 t1 => ?_⟩
  obtain ⟨nn, a, G, nd, e1, e2, e3, hx2⟩ := onN.ex hx
  obtain ⟨C', dx, fs, rfl, rfl, nf, hx3⟩ := onI.ex hx2
  subst e1
  cases t1
  obtain ⟨o, w1, w2, w3⟩ := k1.node e2 e3 (by intro q; cases q)
  cases w2 with
  | ins nd1 e5 e6 =>
    refine ⟨a, dx, _, rfl, w1, lookup_none (by rw [← e5]; exact nf), F1, r1, k1, _, hx3, fun xs r2 vs F2 H2 hx4 k2 q2 t2 => ?_⟩
    exact KCallX.read hx4 (.cons .adr t2) k2 (hP.mono (q1.trans q2))
theorem ex_methG {pl : Sem Bool} (he : DE X.nox o ma) (cl : Cls X.K (He.ga X.K C)) (hm : Meth X.K (He.ga X.K C) m f) (F : FnX X.prog X.w X.K X.mg X.base k f fd ps c) (hr : Rm k X.A) (hgu : X.A.guards = some []) (hb : Binds X.K fd ps []) (ha : DA X.nox (a :: es) ms)
    (hst : starEach (a :: es) X.env = (false, eval a X.env) :: starEach es X.env := by rfl) (hpl : (backTo pos (starEach es X.env)).any (·.1) = false := by rfl)
    (ht : eval (.Call (.Attribute o m apos) (a :: es) [] pos) X.env = (do
      let ov ← eval o X.env
      standAt apos.atName
      let (f, first) ← holding [ov] (getMethod ov m pl)
      callWith pos f first (backTo pos (starEach (a :: es) X.env)) (backToKw pos (keywordEach [] X.env))) := by rfl) :
    EX X (.Call (.Attribute o m apos) (a :: es) [] pos) (mMethGX g C m c ps.length ma ms) := fun e W tk => by
  refine ⟨fun pins s σ H Q I h => ?_⟩
  refine PySem.W.methodCall_KW (pl := pl) (thn ((PE.nox (he e)).run pins s σ H _ I (meth_readGX h)) ?_) ht
  rintro u s1 ⟨x, H1, I1, rx, a, dx, fs, ex, ea, l, q⟩
  subst ex
  obtain rfl : u = Value.ref a := rx
  refine getmeth_ok I1 ea cl hm l ?_
  refine PySem.W.callWith_K (first := [.ref a]) (h₀ := X.base) I.ok.mod.kin hm.kp (thn ((PA_nox (ha e)).run pos pins s1 σ H1 _ I1 q) ?_) hst hpl
  rintro us s2 ⟨vs, H2, I2, r, l2, q2⟩
  exact ⟨I2.kIn, run_fnx (us := .ref a :: us) (vs := .ref a :: vs) tk F hr hgu (kbn_all hb) I2 (.cons rfl r) .nil l2 rfl (by rw [List.append_nil]; exact q2) fun _ _ _ z => z⟩
end
theorem sx_asg {X : Cx} {a tg : Expr} {m : MX} {pos : Pos} (ha : EX X a m) (hs : swapsWithSole [tg] a pos.line X.env = pure false := by rfl) (hw : swappedStores [tg] a X.env = pure none := by rfl) (h1 : (assignEach [tg] X.env).map (·.2) = [assign tg X.env] := by rfl) : SX X (.Assign [tg] a pos) m := fun e W tk =>
  PS.imp (ps_asg (g := fun _ _ _ _ => False) (ha e W tk) ⟨fun _ _ _ _ _ _ _ _ _ h => h.elim⟩ hs hw h1) fun D s H h => h
end DL
namespace DL
open PySem L2 PyProof.Rows
def gFldV (K : Fg) (to : TE) (f : Str) : TG := fun v σ H Q => to σ H fun x H1 => ∃ a C dx fs, x = .ref a ∧ H1 a = some (.ins C dx fs) ∧ Cls K C ∧ NoAttr K C f ∧ fs.length < 1000 ∧ Q σ (upd H1 a (.ins C dx (putF f v fs)))
theorem pg_fld {X : Cx} {o : Expr} {to : TE} {f : Str} {pos : Pos} (ho : PE X o to) : PG X (.Attribute o f pos) (gFldV X.K to f) := by
  refine ⟨fun pins s σ H v u Q I r h => ?_⟩
  rw [assign_Attribute]
  refine wpAny_bind (wpAny_holding (thn (ho.run pins s σ H _ I h) fun ov s1 ⟨x, H1, I1, r1, a, C, dx, fs, ex, ea, c, n, l, q⟩ => ?_))
  subst ex
  obtain rfl : ov = Value.ref a := r1
  refine wpAny_bind (wpAny_standAt (wpAny_bind (wpAny_holding (setattr_ok I1 ea c n l r fun s3 I3 => ?_))))
  exact wpAny_release ⟨σ, _, I3, q⟩
section
variable {K : Fg} {e : En} {F : Hp} {r2 : Rho} {s : L2.St} {H2 : Hp}
theorem setFld_read {g : Nat} {C f : Str} {j : Nat} {Kc : Rho → Prop} {y x : R} {v u : V} {Nx : Hp → Prop} (hc : Cls K (He.ga K C)) (hn : NoAttr K (He.ga K C) f) (hx : KSetFld g C f j Kc y x r2) (k2 : Ok K e F r2 s H2) (t1 : RT K F s y v) (t2 : RT K F s x u)
    (hN : ∀ r' F' H', Kc r' → Ok K e F' r' s H' → Sub F F' → Nx H') : ∃ a dx fs, u = .ref a ∧ H2 a = some (.ins (He.ga K C) dx fs) ∧ Cls K (He.ga K C) ∧ NoAttr K (He.ga K C) f ∧ fs.length < 1000 ∧ Nx (upd H2 a (.ins (He.ga K C) dx (putF f v fs))) := by
  obtain ⟨w, r3, e0, hx1⟩ := onP.ex hx
  obtain ⟨n, a, G, nd, e1, e2, e3, hx2⟩ := onN.ex hx1
  obtain ⟨C', dx, fs, rfl, rfl, hx3⟩ := onI.ex hx2
  have hz := Rq.c hx3
  have hx4 := Rq.a hx3
  subst e1
  cases t2
  obtain ⟨F3, k3, q3, xw⟩ := t1.holdX k2 e0
  obtain ⟨o, w1, w2, w3⟩ := k3.node e2 e3 (by intro q; cases q)
  cases w2 with
  | @ins _ _ hs _ nd1 e5 e6 =>
    have hl : hs.length = fs.length := by
      have := congrArg List.length e5
      simpa using this.symm
    refine ⟨a, dx, hs, rfl, w1, hc, hn, by rw [hl]; exact hz, ?_⟩
    unfold onF at hx4
    split at hx4
    · rename_i f' y' e4
      obtain ⟨rfl, hx5⟩ := hx4
      have hp := strict.ex hx5
      obtain ⟨u', y1, y2⟩ := flds_at e5 e6 e4
      have nn : ((fs.set j (f', w)).map (·.1)) = fs.map (·.1) := by
        rw [List.map_set]
        apply List.ext_getElem?
        intro i
        by_cases t : j = i
        · subst t
          have hj := (List.getElem?_eq_some_iff.mp e4).1
          rw [List.getElem?_set_self (by simpa using hj), List.getElem?_map, e4]; rfl
        · rw [List.getElem?_set_ne t]
      refine hN _ F3 _ hp (k3.nodeWrite e2 e3 (by intro q; cases q) rfl ?_ fun C1 dx1 fs1 q => ?_) q3
      · rw [putF_set (by rw [← e5]; exact nd1) y1]
        refine .ins (by rw [nn]; exact nd1) ?_ ?_
        · rw [nn, e5, List.map_set]
          apply List.ext_getElem?
          intro i
          by_cases t : j = i
          · subst t
            have hj := (List.getElem?_eq_some_iff.mp y1).1
            rw [List.getElem?_set_self (by simpa using hj), List.getElem?_map, y1]; rfl
          · rw [List.getElem?_set_ne t]
        · rw [List.map_set, List.map_set]
          exact e6.set xw j
      · cases q; exact w3 _ _ _ rfl
    · obtain ⟨nf, hx5⟩ := hx4
      have hp := strict.ex hx5
      refine hN _ F3 _ hp (k3.nodeWrite e2 e3 (by intro q; cases q) rfl ?_ fun C1 dx1 fs1 q => ?_) q3
      · rw [putF_app (by rw [← e5]; exact nf)]
        refine .ins ?_ ?_ ?_
        · rw [List.map_append, List.nodup_append]
          refine ⟨nd1, by simp, fun z hz y hy t => ?_⟩
          simp at hy
          rw [t, hy] at hz
          exact nf hz
        · rw [List.map_append, List.map_append, e5]; rfl
        · rw [List.map_append, List.map_append]
          exact e6.append (.cons xw .nil)
      · cases q; exact w3 _ _ _ rfl
end
inductive Tg where
  | nm (i : Nat) | fld (g i : Nat) (C f : Str) (j : Nat) | put (g i : Nat) (k : Str)
def rAdr (r : Rho) (i : Nat) : R := match r[i]? with
  | some (some (.adr n a)) => .adr n a
  | _ => .val .none
theorem rAdr_of {r : Rho} {i n : Nat} {a : Addr} (h : rAdr r i = .adr n a) : r[i]? = some (some (.adr n a)) := by
  unfold rAdr at h
  split at h
  · rename_i q; cases h; exact q
  · cases h
def tgK : Tg → D → (Rho → Prop) → Rho → Prop
  | .nm i, d, K, r => strict (r.set i (some (.val d))) K
  | .fld g i C f j, d, K, r => KSetFld g C f j K (.val d) (rAdr r i) r
  | .put g i k, d, K, r => KPutN g (.val d) ⟨K, fun _ _ => False, fun _ => False, fun _ => False⟩ (rAdr r i) (.val (.str k)) r
def tgsK : List Tg → List D → (Rho → Prop) → Rho → Prop
  | [], [], K, r => K r
  | t :: ts, d :: ds, K, r => tgK t d (fun r1 => tgsK ts ds K r1) r
  | _, _, _, _ => False
def sTgs (ts : List Tg) (mv : ME) : MS := fun r O => mv r fun x r1 => onP (hold r1 x.tmp) fun qa qb => onO (tpOf qa) fun ds => rqB (decide (ds.length = ts.length)) (strict qb fun r2 => tgsK ts ds O.nx r2)
def TGk (K : Fg) (e : En) (t : Tg) : TG := fun v s H Nx => ∃ F r d Kc, Ok K e F r s H ∧ Rp K F v d ∧ tgK t d Kc r ∧ ∀ r' s' F' H', Kc r' → Ok K e F' r' s' H' → Sub F F' → Nx s' H'
def TGsk (K : Fg) (e : En) (ts : List Tg) : TGs := fun vs s H Nx => ∃ F r ds Kc, Ok K e F r s H ∧ RpA K F vs ds ∧ tgsK ts ds Kc r ∧ ∀ r' s' F' H', Kc r' → Ok K e F' r' s' H' → Sub F F' → Nx s' H'
def DTg (X : Cx) (a : Expr) (t : Tg) : Prop := ∀ e, PG X a (TGk X.K e t)
def DTgs (X : Cx) (es : List Expr) (ts : List Tg) : Prop := ∀ e, PGs X es (TGsk X.K e ts)
section
variable {X : Cx} {a b c : Expr} {es : List Expr} {x : Str} {pos p : Pos} {t : Tg} {ts : List Tg} {mv : ME} {i g j : Nat} {C f k : Str}
theorem dtg_nm (hN : X.N.Nodup) (hi : X.N[i]? = some x) (hx : Loc X.env.scope x) (hf : X.fn x = true ∨ X.env.scope.names.lookup x = some .local := by first | exact .inl rfl | exact .inr rfl | assumption) : DTg X (.Name x pos) (.nm i) := fun e =>
  PG.imp (pg_name hN hi hx hf) fun v s H Q ⟨F, r, d, Kc, k, rp, hk, hQ⟩ => hQ _ _ F H hk.ex (k.store rp) (Sub.refl F)
theorem dtg_fld (hc : Cls X.K (He.ga X.K C)) (hn : NoAttr X.K (He.ga X.K C) f) (hN : X.N[i]? = some x) (hv : Vis X.env.scope x) (hd : (x == ("__debug__" : Str)) = false := by decide) (hcd : (x == ("__classdict__" : Str)) = false := by decide) : DTg X (.Attribute (.Name x p) f pos) (.fld g i C f j) := fun e =>
  PG.imp (pg_fld (pe_var hN hv hd hcd)) fun v s H Q ⟨F, r, d, Kc, k, rp, hk, hQ⟩ => by
    have hk : KSetFld g C f j Kc (.val d) (rAdr r i) r := hk
    have hk2 := hk
    unfold KSetFld at hk2
    obtain ⟨w, r3, e0, hx1⟩ := onP.ex hk2
    obtain ⟨n, a, G, nd, e1, _⟩ := onN.ex hx1
    have hi := k.adr i n a (rAdr_of e1)
    rw [e1] at hk
    obtain ⟨a', dx, fs, q1, q2, q3, q4, q5, q6⟩ := setFld_read (Nx := fun H' => Q s H') hc hn hk k (.val rp) .adr fun r' F' H' y1 y2 y3 => hQ r' s F' H' y1 y2 y3
    exact ⟨_, hi, a', _, dx, fs, q1, q2, q3, q4, q5, q6⟩
theorem dtg_put (hu : X.A.units + 1 < cLine) (hN : X.N[i]? = some x) (hv : Vis X.env.scope x) {j1 : Nat} {p1 : Pos} (hd : (x == ("__debug__" : Str)) = false := by decide) (hcd : (x == ("__classdict__" : Str)) = false := by decide)
    (ha : ∀ v, assign (.Subscript (.Name x p) (.Constant (.str k) j1 p1) pos) X.env v = (do
      let ov ← holding [v] (eval (.Name x p) X.env)
      let iv ← holding [v, ov] (eval (.Constant (.str k) j1 p1) X.env)
      standAt pos
      holding [v, ov, iv] (setItem ov iv v)
      release [v, ov, iv] []) := by intro _; rfl) : DTg X (.Subscript (.Name x p) (.Constant (.str k) j1 p1) pos) (.put g i k) := fun e =>
  PG.imp (pg_sub (pe_var hN hv hd hcd) pe_str (set_dict hu) ha) fun v s H Q ⟨F, r, d, Kc, k4, rp, hk, hQ⟩ => by
    have hy : KPutN g (.val d) ⟨Kc, fun _ _ => False, fun _ => False, fun _ => False⟩ (rAdr r i) (.val (.str k)) r := hk
    obtain ⟨n, a, G, nd, e1, e2, e3, hy2⟩ := onN.ex hy
    obtain ⟨dd, e4, hy3⟩ := onO.ex hy2
    have hl := Rq.c hy3
    obtain ⟨nd', e5, hy4⟩ := onO.ex (Rq.a hy3)
    have hi := k4.adr i n a (rAdr_of e1)
    have nd0 : nd ≠ .dead := by intro z; subst z; cases e5
    obtain ⟨oo, w1, w2, _⟩ := k4.node e2 e3 nd0
    have t4 : RT X.K F s (.val (.str k)) (.str k) := .val (.str k)
    obtain ⟨o', u1, u2, u3, u4, u5⟩ := w2.put w1 k4.sub (t4.look k4 e4) (.val rp) hl e5
    exact ⟨_, hi, a, _, rfl, u1, hQ _ s F _ hy4.ex (k4.nodeWrite e2 e3 nd0 u3 u2 fun C dx fs z => absurd z (u5 C dx fs)) (Sub.refl F)⟩
theorem dtgs_nil : DTgs X [] [] := fun e => PGs.imp pgs_nil fun v s H Q ⟨F, r, ds, Kc, k, rp, hk, hQ⟩ => by
  cases rp with
  | nil => exact ⟨rfl, hQ r s F H hk k (Sub.refl F)⟩
  | cons _ _ => exact hk.elim
theorem dtgs_cons (h1 : DTg X a t) (h2 : DTgs X es ts) (hs : (assignEach (a :: es) X.env).map (·.2) = assign a X.env :: (assignEach es X.env).map (·.2) := by rfl) : DTgs X (a :: es) (t :: ts) := fun e =>
  PGs.imp (pgs_cons (h1 e) (h2 e) hs) fun v s H Q ⟨F, r, ds, Kc, k, rp, hk, hQ⟩ => by
    cases rp with
    | nil => exact hk.elim
    | cons r1 r2 => exact ⟨_, _, rfl, F, r, _, _, k, r1, hk, fun r' s' F' H' y1 y2 y3 => ⟨F', r', _, Kc, y2, r2.mono y3, y1, fun r9 s9 F9 H9 z1 z2 z3 => hQ r9 s9 F9 H9 z1 z2 (y3.trans z3)⟩⟩
theorem ds_tgs {kk n : Nat} {tpos : Pos} (hc : X.calm = true) (h : DTgs X es ts) (hv : DE X b mv) (hn : (assignEach es X.env).length = n := by rfl) (hl : ts.length = n := by rfl) (hst : (assignEach es X.env).findIdx? (·.1) = none := by rfl)
    (hs : swapsWithSole [.Tuple es kk tpos] b pos.line X.env = pure false := by rfl) (hw : swappedStores [.Tuple es kk tpos] b X.env = pure none := by rfl) (h1 : (assignEach [.Tuple es kk tpos] X.env).map (·.2) = [assign (.Tuple es kk tpos) X.env] := by rfl) : DS X (.Assign [.Tuple es kk tpos] b pos) (sTgs ts mv) := fun e =>
  PS.imp (ps_asg (hv.tmp e) (pg_tup hc (h e) hn hst) hs hw h1) fun Dd s H ⟨F, r, k, O, hm, hO⟩ => ⟨F, r, k, fun x r1 => onP (hold r1 x) fun qa qb => onO (tpOf qa) fun ds => rqB (decide (ds.length = ts.length)) (strict qb fun r2 => tgsK ts ds O.nx r2), hm, fun x r1 v F1 H1 hx k1 q1 t1 => by
    obtain ⟨qa, qb, e1, hx2⟩ := onP.ex hx
    obtain ⟨ds, e2, hx3⟩ := onO.ex hx2
    obtain ⟨hlen, hx3⟩ := rqB.ex hx3
    have hlen := of_decide_eq_true hlen
    have hx4 := strict.ex hx3
    obtain ⟨F2, k2, q2, rp⟩ := t1.hold k1 e1
    have e3 : qa = .tuple ds := by cases qa <;> first | (cases e2; rfl) | cases e2
    subst e3
    cases rp with
    | tup g1 g2 =>
      exact ⟨_, _, rfl, k2.sub.sqT g1.sqT, by rw [g2.length, ← hl]; exact hlen, F2, qb, ds, O.nx, k2, g2, hx4, fun r' s' F' H' y1 y2 y3 => hO.nx r' s' F' H' y1 y2 ((q1.trans q2).trans y3)⟩⟩
end
section
variable {X : Cx} {e1 : Expr} {me : ME} {pos p : Pos}
inductive CPs (X : Cx) : List (Option Expr) → List Expr → List (Str × Int) → Prop
  | nil : CPs X [] [] []
  | cons {k : Str} {i : Int} {j j2 : Nat} {p1 p2 : Pos} {ks : List (Option Expr)} {vs : List Expr} {kvs : List (Str × Int)} (r : CPs X ks vs kvs) : CPs X (some (.Constant (.str k) j p1) :: ks) (.Constant (.int i) j2 p2 :: vs) ((k, i) :: kvs)
theorem CPs.pps {ks : List (Option Expr)} {vs : List Expr} {kvs : List (Str × Int)} (h : CPs X ks vs kvs) : PPs X pos ks vs (kvs.map fun q => (tC (.str q.1), tC (.int q.2))) := by
  induction h with
  | nil => exact pps_nil
  | cons _ ih => exact pps_cons pe_str pe_int ih
theorem cps_read {s : L2.St} : ∀ {kvs : List (Str × Int)} {H : Hp} {Q : List (V × V) → Hp → Prop}, Q (kvs.map fun q => (.str q.1, .int q.2)) H → tPairs (kvs.map fun q => (tC (.str q.1), tC (.int q.2))) s H Q
  | [], H, Q, h => h
  | q :: kvs, H, Q, h => cps_read (kvs := kvs) (Q := fun ps H3 => Q ((.str q.1, .int q.2) :: ps) H3) h
def cLk : List (Str × Int) → Str → Option Int
  | [], _ => none
  | p :: r, x => if p.1 = x then some p.2 else cLk r x
theorem cLk_val : ∀ (kvs : List (Str × Int)) (z : Str), valV (kvs.map fun q => ((.inr q.1 : Key), V.int q.2)) (.inr z) = (cLk kvs z).map V.int
  | [], z => rfl
  | q :: kvs, z => by
    have ih := cLk_val kvs z
    rw [List.map_cons, cLk]
    by_cases e : q.1 = z
    · subst e
      simp [valV]
    · rw [if_neg e, ← ih]
      simp only [valV]
      rw [List.find?_cons_of_neg]
      simpa using fun h => e h
def KGetC (kvs : List (Str × Int)) (dflt : Int) (x : R) (r : Rho) (P : Po) : Prop := match x with
  | .val (.str z) => P (.val (.int ((cLk kvs z).getD dflt))) r
  | _ => False
def mGetC (kvs : List (Str × Int)) (dflt : Int) (me : ME) : ME := fun r P => Rq ((kvs.map (·.1)).Nodup ∧ kvs.length ≤ 15) (me r fun x r1 => KGetC kvs dflt x.tmp r1 P)
theorem de_getC {ks : List (Option Expr)} {vs : List Expr} {kvs : List (Str × Int)} {dflt : Int} {j : Nat} {p1 p2 apos : Pos} (hu : X.A.units + 1 < cLine) (h : CPs X ks vs kvs) (ha : DE X e1 me) (m : M2 X (.Dict ks vs p1) "get" apos e1 (.Constant (.int dflt) j p2) pos)
    (hall : ks.all (·.isSome) = true := by rfl) (hl : ks.length = vs.length := by rfl) (h0 : ks ≠ [] := by simp) (h15 : ks.length ≤ 15 := by decide) :
    DE X (.Call (.Attribute (.Dict ks vs p1) "get" apos) [e1, .Constant (.int dflt) j p2] [] pos) (mGetC kvs dflt me) := fun e => by
  refine PE.imp (pe_dget2 hu (pe_disp (h.pps (pos := p1)) hall hl h0 h15) (ha.tmp e) pe_int m) fun s H Q ⟨F, r, k, P, hm, hP⟩ p hp => ?_
  obtain ⟨nd, hlen⟩ := Rq.c hm
  have hm := Rq.a hm
  refine cps_read ⟨upd_same, kvs.map fun q => (.inr q.1, .int q.2), by rw [List.map_map]; rfl, by rw [List.length_map]; exact hlen, ?_⟩
  rw [merge_new _ [] (by
    rw [List.map_nil, List.nil_append, List.map_map]
    have e1 : (kvs.map ((fun p : Key × V => p.1) ∘ fun q : Str × Int => ((.inr q.1 : Key), V.int q.2))) = (kvs.map (·.1)).map (fun x : Str => (.inr x : Key)) := by rw [List.map_map]; rfl
    rw [e1]
    exact List.Pairwise.map _ (fun a b h q => h (by cases q; rfl)) nd), List.nil_append, upd2_eq]
  refine ⟨p, rfl, ?_, _, _, k.lay hp, fun x r1 => KGetC kvs dflt x r1 P, hm, fun x r1 v F1 H1 hx k1 q1 t1 => ?_⟩
  · exact .inl ⟨_, .inl upd_same⟩
  · have hx : KGetC kvs dflt x r1 P := hx
    unfold KGetC at hx
    split at hx
    · rename_i zz hzz
      cases t1 with | val t1 =>
      cases t1
      have hpF : F1 p = _ := q1 _ _ upd_same
      have hg := DGet.k (k := .inr zz) (k1.sub _ _ hpF)
      rw [cLk_val] at hg
      refine ⟨_, hg, ?_⟩
      have q01 : Sub F F1 := (Sub.new (k.free hp).1).trans q1
      cases hz : cLk kvs zz with
      | none => rw [hz] at hx; exact hP _ r1 _ F1 H1 hx k1 q01 (.val (.int _))
      | some i => rw [hz] at hx; exact hP _ r1 _ F1 H1 hx k1 q01 (.val (.int _))
    · exact hx.elim
end
end DL
namespace DL
open PySem L2 PyProof.Rows
section
variable {X : Cx} {pins : List (Addr × Obj)} {σ : L2.St} {H Hu : Hp} {s : Shared}
/-- some locked lists, younger than the frame, are unlocked -/
def UnA (X : Cx) (H Hu : Hp) : Prop := ∀ b, Hu b = H b ∨ ∃ od us, H b = some (.frz od (.lst us)) ∧ Hu b = some (.lst us) ∧ ∀ o' u', X.H_0 b ≠ some (.frz o' u')
theorem UnA.eq (U : UnA X H Hu) {b : Addr} (h : ∀ od us, H b ≠ some (.frz od (.lst us))) : Hu b = H b := by
  rcases U b with q | ⟨od, us, q, _⟩
  · exact q
  · exact absurd q (h od us)
theorem UnA.non (U : UnA X H Hu) {b : Addr} (h : H b = none) : Hu b = none := by
  rw [U.eq fun od us q => by rw [h] at q; cases q]; exact h
end
section
variable {K : Fg} {H H1 H2 : Hp} {W : Addr → Prop}
mutual
inductive Sh (K : Fg) (H : Hp) (W : Addr → Prop) : Nat → Nat → V → Prop
  | non {n c : Nat} : Sh K H W n c .non
  | bl {n c : Nat} (b : Bool) : Sh K H W n c (.bl b)
  | int {n c : Nat} (i : Int) : Sh K H W n c (.int i)
  | str {n c : Nat} (x : Str) : Sh K H W n c (.str x)
  | tup {n c : Nat} {t : Addr} {xs : List V} {ds : List D} : TpOk K H t xs ds → xs.all noIntV = ds.all noInt → ShA K H W n c xs → Sh K H W (n + 1) c (.ref t)
  | lst {n c : Nat} {a : Addr} {xs : List V} : W a → H a = some (.lst xs) → ShA K H W n c xs → Sh K H W (n + 1) (c + 1) (.ref a)
inductive ShA (K : Fg) (H : Hp) (W : Addr → Prop) : Nat → Nat → List V → Prop
  | nil {n c : Nat} : ShA K H W n c []
  | cons {n c1 c2 : Nat} {v : V} {vs : List V} : Sh K H W n c1 v → ShA K H W n c2 vs → ShA K H W n (c1 + c2) (v :: vs)
end
theorem TpOk.re {F : Hp} {a : Addr} {xs : List V} {ds es : List D} (h : TpOk K F a xs ds) (e : ds.all noInt = es.all noInt) : TpOk K F a xs es := by
  unfold TpOk at h ⊢
  rw [← e]; exact h
mutual
theorem Sh.rp : ∀ {n c : Nat} {v : V}, Sh K H W n c v → ∃ d, Rp K H v d
  | _, _, _, .non => ⟨_, .non⟩
  | _, _, _, .bl b => ⟨_, .bl b⟩
  | _, _, _, .int b => ⟨_, .int b⟩
  | _, _, _, .str b => ⟨_, .str b⟩
  | _, _, _, .tup h e r => by
    obtain ⟨ds, g⟩ := ShA.rp r
    exact ⟨.tuple ds, .tup (h.re (by rw [← e, g.noInt])) g⟩
  | _, _, _, .lst _ h r => by
    obtain ⟨ds, g⟩ := ShA.rp r
    exact ⟨.list ds, .lst (.inl h) g⟩
theorem ShA.rp : ∀ {n c : Nat} {vs : List V}, ShA K H W n c vs → ∃ ds, RpA K H vs ds
  | _, _, _, .nil => ⟨_, .nil⟩
  | _, _, _, .cons h r => by
    obtain ⟨d, g⟩ := Sh.rp h
    obtain ⟨ds, k⟩ := ShA.rp r
    exact ⟨_, .cons g k⟩
end
theorem ShA.rep {n c : Nat} : ∀ k : Nat, ShA K H W n c (List.replicate k .non)
  | 0 => .nil
  | k + 1 => by
    have := ShA.cons (c1 := 0) Sh.non (ShA.rep (n := n) (c := c) k)
    rw [Nat.zero_add] at this
    exact this
/-- every list of W stands open, with room for so many more -/
def Roo (H : Hp) (W : Addr → Prop) (c : Nat) : Prop := ∀ a, W a → ∃ xs, H a = some (.lst xs) ∧ xs.length + c < sizeLine
/-- what is done: lists of W have grown, by at most so many -/
structure Spd (W : Addr → Prop) (c : Nat) (H H' : Hp) : Prop where
  keep : ∀ a o, ¬ W a → H a = some o → H' a = some o
  lst : ∀ a xs, W a → H a = some (.lst xs) → ∃ k, k ≤ c ∧ H' a = some (.lst (xs ++ List.replicate k .non))
theorem Spd.sub {c : Nat} (h : Sub H H1) : Spd W c H H1 := ⟨fun a o _ e => h a o e, fun a xs _ e => ⟨0, Nat.zero_le _, by rw [List.replicate_zero, List.append_nil]; exact h a _ e⟩⟩
theorem Spd.trans {c c' : Nat} (h : Spd W c H H1) (g : Spd W c' H1 H2) : Spd W (c + c') H H2 where
  keep := fun a o w e => g.keep a o w (h.keep a o w e)
  lst := fun a xs w e => by
    obtain ⟨k, k1, e1⟩ := h.lst a xs w e
    obtain ⟨j, j1, e2⟩ := g.lst a _ w e1
    exact ⟨k + j, by omega, by rw [e2, List.append_assoc, List.replicate_append_replicate]⟩
end
structure FnT (P : Program) (w : World) (K : Fg) (mg : Str → Option Value) (base : Heap) (k : Nat) (f : Addr) (fd : FuncData) (ps : List Str) (S : List V → Hp → VK → Prop) : Prop where
  run : ∀ (A : Around) (outer : List Env) (s : Shared) (H : Hp) (args : Args) (us : List Value) (vs : List V) (Q : VK) (E : XK), Rm k A → A.guards = some [] → Env0 P w K mg base A outer s H → BindsTo s fd args (ps.zip us) → Vals vs us → vs.length = ps.length → S vs H Q →
    codeAny (model P w) A (.call (.ref f) args) (CR CX0 outer P w H s Q E) s
theorem FnT.mono {P : Program} {w : World} {K : Fg} {mg : Str → Option Value} {base : Heap} {j k : Nat} {f : Addr} {fd : FuncData} {ps : List Str} {S : List V → Hp → VK → Prop} (F : FnT P w K mg base j f fd ps S) (h : j ≤ k) : FnT P w K mg base k f fd ps S :=
  ⟨fun A outer s H args us vs Q E hr => F.run A outer s H args us vs Q E (hr.mono h)⟩
/-- what the spoiling def is asked -/
def spS (K : Fg) (n : Nat) : List V → Hp → VK → Prop := fun vs H Q => ∃ v W c, vs = [v] ∧ Sh K H W n c v ∧ Roo H W c ∧ ∀ H', Spd W c H H' → Q .non H'
structure SpDef (P : Program) (w : World) (K : Fg) (mg : Str → Option Value) (base : Heap) (k : Nat) (x : Str) (n : Nat) : Prop where
  ex : ∃ f fd ps, mg x = some (.ref f) ∧ PySem.W.keepIn K (.ref f) = true ∧ FnT P w K mg base k f fd ps (spS K n) ∧ Binds K fd ps [] ∧ ps.length = 1
theorem SpDef.of {P : Program} {w : World} {K : Fg} {mg : Str → Option Value} {base : Heap} {k n : Nat} {x : Str} {f : Addr} {fd : FuncData} {ps : List Str} (hm : mg x = some (.ref f)) (hk : PySem.W.keepIn K (.ref f) = true) (F : FnT P w K mg base k f fd ps (spS K n)) (hb : Binds K fd ps []) (hl : ps.length = 1 := by rfl) : SpDef P w K mg base k x n := ⟨⟨f, fd, ps, hm, hk, F, hb, hl⟩⟩
end DL
namespace DL
open PySem L2 PyProof.Rows
end DL
namespace DL
open PySem L2 PyProof.Rows
/-- the dict kvs, locked or not -/
def DK (u : HO) (kvs : List (Key × V)) : Prop := u = .dK kvs ∨ ∃ o, u = .frz o (.dK kvs)
def lkH (d : Addr) (w : HO) (G : Hp) : Hp := fun b => if b = d then (G d).map fun _ => w else G b
section
variable {K : Fg} {F H : Hp} {d a : Addr} {u w : HO} {kvs : List (Key × V)}
theorem lk_ne (h : a ≠ d) : lkH d w F a = F a := if_neg h
theorem lk_eq : lkH d w F d = (F d).map fun _ => w := if_pos rfl
theorem lk_none (h : F a = none) : lkH d w F a = none := by
  by_cases q : a = d
  · subst q; rw [lk_eq, h]; rfl
  · rw [lk_ne q]; exact h
theorem lk_sub (h : Sub F H) : Sub (lkH d w F) (lkH d w H) := fun b o e => by
  by_cases q : b = d
  · subst q
    rw [lk_eq] at e ⊢
    obtain ⟨x, e1, e2⟩ := Option.map_eq_some_iff.mp e
    rw [h _ _ e1]; rw [← e2]; rfl
  · rw [lk_ne q] at e ⊢; exact h _ _ e
/-- what is no such dict stays -/
theorem lk_stay (hd : F d = some u) (hu : DK u kvs) {o : HO} (h : F a = some o) (n1 : ∀ k, o ≠ .dK k) (n2 : ∀ p k, o ≠ .frz p (.dK k)) : lkH d w F a = some o := by
  rw [lk_ne]
  · exact h
  · intro q
    subst q
    rw [hd] at h
    cases h
    rcases hu with rfl | ⟨p, rfl⟩
    · exact n1 _ rfl
    · exact n2 _ _ rfl
theorem lk_dk (hd : F d = some u) (hu : DK u kvs) (hw : DK w kvs) {ks : List (Key × V)} (h : Rd F a (.dK ks)) : Rd (lkH d w F) a (.dK ks) := by
  by_cases q : a = d
  · subst q
    have : ks = kvs := by
      rcases h with h | ⟨o, h⟩
      · rw [hd] at h; cases h
        rcases hu with z | ⟨p, z⟩
        · cases z; rfl
        · cases z
      · rw [hd] at h; cases h
        rcases hu with z | ⟨p, z⟩
        · cases z
        · cases z; rfl
    subst this
    have e : lkH a w F a = some w := by rw [lk_eq, hd]; rfl
    rcases hw with z | ⟨p, z⟩
    · exact .inl (by rw [e, z])
    · exact .inr ⟨p, by rw [e, z]⟩
  · rcases h with h | ⟨o, h⟩
    · exact .inl (by rw [lk_ne q]; exact h)
    · exact .inr ⟨o, by rw [lk_ne q]; exact h⟩
theorem lk_lst (hd : F d = some u) (hu : DK u kvs) {xs : List V} (h : Rd F a (.lst xs)) : Rd (lkH d w F) a (.lst xs) := by
  rcases h with h | ⟨o, h⟩
  · exact .inl (lk_stay hd hu h (fun _ z => by cases z) fun _ _ z => by cases z)
  · exact .inr ⟨o, lk_stay hd hu h (fun _ z => by cases z) fun _ _ z => by cases z⟩
theorem lk_tp (hd : F d = some u) (hu : DK u kvs) {xs : List V} {ds : List D} (h : TpOk K F a xs ds) : TpOk K (lkH d w F) a xs ds := by
  rcases h with ⟨h, q⟩ | ⟨⟨o, h, z⟩ | h, q⟩
  · exact .inl ⟨lk_stay hd hu h (fun _ z => by cases z) (fun _ _ z => by cases z), q⟩
  · exact .inr ⟨.inl ⟨o, lk_stay hd hu h (fun _ z => by cases z) (fun _ _ z => by cases z), z⟩, q⟩
  · exact .inr ⟨.inr h, q⟩
theorem lk_dof (hd : F d = some u) (hu : DK u kvs) (hw : DK w kvs) {ks : List D} {vs : List V} (h : DOf F a ks vs) : DOf (lkH d w F) a ks vs := by
  rcases h with ⟨k, h, q⟩ | ⟨k, h, q⟩
  · exact .inl ⟨k, lk_dk hd hu hw h, q⟩
  · refine .inr ⟨k, ?_, q⟩
    rcases h with h | ⟨o, h⟩
    · exact .inl (lk_stay hd hu h (fun _ z => by cases z) fun _ _ z => by cases z)
    · exact .inr ⟨o, lk_stay hd hu h (fun _ z => by cases z) fun _ _ z => by cases z⟩
end
mutual
theorem Rp.lk {K : Fg} {F : Hp} {d : Addr} {u w : HO} {kvs : List (Key × V)} (hd : F d = some u) (hu : DK u kvs) (hw : DK w kvs) {v : V} {x : D} : Rp K F v x → Rp K (lkH d w F) v x
  | .non => .non
  | .bl b => .bl b
  | .int i => .int i
  | .str x => .str x
  | .lst h r => .lst (lk_lst hd hu h) (RpA.lk hd hu hw r)
  | .tup h r => .tup (lk_tp hd hu h) (RpA.lk hd hu hw r)
  | .dct h r a b => .dct (lk_dof hd hu hw h) (RpA.lk hd hu hw r) a b
theorem RpA.lk {K : Fg} {F : Hp} {d : Addr} {u w : HO} {kvs : List (Key × V)} (hd : F d = some u) (hu : DK u kvs) (hw : DK w kvs) {v : List V} {x : List D} : RpA K F v x → RpA K (lkH d w F) v x
  | .nil => .nil
  | .cons h r => .cons (Rp.lk hd hu hw h) (RpA.lk hd hu hw r)
end
section
variable {K : Fg} {e : En} {F H : Hp} {d : Addr} {u w : HO} {kvs : List (Key × V)} {r : Rho} {s : L2.St}
theorem MO.lk (hd : F d = some u) (hu : DK u kvs) (hw : DK w kvs) {o : HO} {m : MB} (h : MO K F o m) : MO K (lkH d w F) o m := by
  cases h with
  | L r => exact .L (r.lk hd hu hw)
  | K e r => exact .K e (r.lk hd hu hw)
  | T e r => exact .T e (r.lk hd hu hw)
theorem XOk.lk (hd : F d = some u) (hu : DK u kvs) (hw : DK w kvs) {v : V} {x : X1} (h : XOk K F v x) : XOk K (lkH d w F) v x := by
  cases h with
  | val a => exact .val (a.lk hd hu hw)
  | adr => exact .adr
theorem XsOk.lk (hd : F d = some u) (hu : DK u kvs) (hw : DK w kvs) {v : List V} {x : List X1} (h : XsOk K F v x) : XsOk K (lkH d w F) v x := by
  induction h with
  | nil => exact .nil
  | cons a _ ih => exact .cons (a.lk hd hu hw) ih
theorem NO.lk (hd : F d = some u) (hu : DK u kvs) (hw : DK w kvs) {o : HO} {x : Nd} (h : NO K F o x) : NO K (lkH d w F) o x := by
  cases h with
  | lst r => exact .lst (r.lk hd hu hw)
  | dK e r => exact .dK e (r.lk hd hu hw)
  | dT e r => exact .dT e (r.lk hd hu hw)
  | ins n e r => exact .ins n e (r.lk hd hu hw)
  | tbl t c => exact .tbl t fun pos cv z => (by
      obtain ⟨a, e, q⟩ := c pos cv z
      exact ⟨a, e, lk_stay hd hu q (fun _ z => by cases z) fun _ _ z => by cases z⟩)
theorem ObOk.lk (hd : F d = some u) (hu : DK u kvs) (hw : DK w kvs) {v : V} {o : Ob} (ht : (∀ kvs, o ≠ .tab kvs) ∨ ∃ p k, u = .frz p (.dK k)) (h : ObOk K F v o) : ObOk K (lkH d w F) v o := by
  cases h with
  | scr a =>
    rcases a with a | a
    · exact .scr (.inl (lk_lst hd hu a))
    · exact .scr (.inr a)
  | exc0 a => exact .exc0 (lk_stay hd hu a (fun _ z => by cases z) fun _ _ z => by cases z)
  | exc a b c x => exact .exc (lk_stay hd hu a (fun _ z => by cases z) fun _ _ z => by cases z) (lk_stay hd hu b (fun _ z => by cases z) fun _ _ z => by cases z) c (x.lk hd hu hw)
  | tab a =>
    rcases ht with z | ⟨p, k, z⟩
    · exact absurd rfl (z _)
    · refine .tab ?_
      rw [lk_ne]
      · exact a
      · intro q
        subst q
        rw [hd, z] at a
        cases a
  | fn => exact .fn
  | lam a b => exact .lam (lk_stay hd hu a (fun _ z => by cases z) fun _ _ z => by cases z) ⟨b.1, fun i x z => (by obtain ⟨v, e, q⟩ := b.2 i x z; exact ⟨v, e, q.lk hd hu hw⟩)⟩
theorem GhOk.lk (hd : F d = some u) (hu : DK u kvs) (hw : DK w kvs) {G : Gh} (h : GhOk K e F H G) : GhOk K { e with F0 := lkH d w e.F0, P := lkH d w e.P } (lkH d w F) (lkH d w H) G := by
  have ne : ∀ p ∈ fp G, p ≠ d := fun p hp q => by
    subst q
    have := (h.fr p hp).1
    rw [hd] at this
    cases this
  refine ⟨h.nd, fun x hx => ?_, fun p hp => ?_⟩
  · rcases h.at' x hx with q | ⟨⟨o, g1, g2⟩, g3⟩
    · exact .inl q
    · by_cases z : x.2 = .dead
      · exact .inl z
      · refine .inr ⟨⟨o, by rw [lk_ne (ne _ (mem_fp hx z))]; exact g1, g2.lk hd hu hw⟩, fun C dx fs q => ?_⟩
        obtain ⟨a, n⟩ := x
        cases q
        rw [lk_ne (ne _ (mem_fpi hx))]
        exact g3 C dx fs rfl
  · obtain ⟨g1, g2, g3, g4⟩ := h.fr p hp
    exact ⟨lk_none g1, lk_none g2, g3, by rw [lk_ne (ne p hp)]; exact g4⟩
theorem Ok.lk (k : Ok K e F r s H) (hd : F d = some u) (hu : DK u kvs) (hw : DK w kvs) (hob : (∀ (i : Nat) kvs, r[i]? ≠ some (some (.ob (.tab kvs)))) ∨ ∃ p k, u = .frz p (.dK k)) : Ok K { e with F0 := lkH d w e.F0, P := lkH d w e.P } (lkH d w F) r s (lkH d w H) where
  len := k.len
  sub := lk_sub k.sub
  f0 := lk_sub k.f0
  prot := lk_sub k.prot
  new := fun a o h => by
    by_cases q : a = d
    · subst q
      rw [lk_eq, hd] at h
      have h : w = o := Option.some.inj h
      rcases k.new _ _ hd with z | z | ⟨xs, z⟩
      · exact .inl (by show lkH a w e.F0 a = _; rw [lk_eq, z, ← h]; rfl)
      · exact .inr (.inl (lk_none z))
      · rcases hu with y | ⟨p, y⟩ <;> (rw [y] at z; cases z)
    · rw [lk_ne q] at h
      rcases k.new a o h with z | z | z
      · exact .inl (by show lkH d w e.F0 a = _; rw [lk_ne q]; exact z)
      · exact .inr (.inl (lk_none z))
      · exact .inr (.inr z)
  dom := fun a ha z => by
    by_cases q : a = d
    · subst q
      rw [lk_eq, k.sub _ _ hd] at z
      cases z
    · rw [lk_ne q] at z; exact k.dom a ha z
  slot := fun i x h => by
    obtain ⟨v, e1, e2⟩ := k.slot i x h
    exact ⟨v, e1, e2.lk hd hu hw⟩
  box := fun i b m h => by
    obtain ⟨p, o, e1, e2, e3, e4, e5, e6⟩ := k.box i b m h
    have ne : p ≠ d := fun q => by subst q; rw [hd] at e4; cases e4
    exact ⟨p, o, e1, by rw [lk_ne ne]; exact e2, e3.lk hd hu hw, lk_none e4, lk_none e5, e6⟩
  ob := fun i o h => by
    obtain ⟨v, e1, e2⟩ := k.ob i o h
    exact ⟨v, e1, e2.lk hd hu hw (hob.imp (fun z kvs q => z i kvs (by rw [h, q])) id)⟩
  sep := k.sep
  adr := k.adr
  gh := fun i G h => by
    obtain ⟨g1, g2⟩ := k.gh i G h
    exact ⟨g1.lk hd hu hw, g2⟩
  gpF := k.gpF
theorem RR.lk (hd : F d = some u) (hu : DK u kvs) (hw : DK w kvs) {x : R} {v : V} (hob : ∃ p k, u = .frz p (.dK k)) (h : RR K e F r s H x v) : RR K { e with F0 := lkH d w e.F0, P := lkH d w e.P } (lkH d w F) r s (lkH d w H) x v := by
  cases h with
  | val a => exact .val (a.lk hd hu hw)
  | own a b c q f n =>
    rename_i p o m
    have ne : p ≠ d := fun q => by subst q; rw [hd] at c; cases c
    exact .own (by rw [lk_ne ne]; exact a) (b.lk hd hu hw) (lk_none c) (lk_none q) f n
  | bor a b => exact .bor a b
  | ob a => exact .ob (a.lk hd hu hw (.inr hob))
  | adr => exact .adr
end
end DL
namespace DL
open PySem L2 PyProof.Rows
section
variable {X : Cx} {a b o : Expr} {es : List Expr} {ma mv : ME} {ms : MA} {p pos apos : Pos} {g j k n : Nat} {C m x : Str}
theorem de_mth0 {c : Ct} {pl : Sem Bool} (h : MethP X.prog X.w X.K X.mg X.base k C m n c) (cl : Cls X.K (He.ga X.K C)) (hr : Rm k X.A) (hgu : X.A.guards = some []) (he : DE X o ma)
    (ht : eval (.Call (.Attribute o m apos) [] [] pos) X.env = (do
      let ov ← eval o X.env
      standAt apos.atName
      let (f, first) ← holding [ov] (getMethod ov m pl)
      callWith pos f first (backTo pos (starEach [] X.env)) (backToKw pos (keywordEach [] X.env))) := by rfl) :
    DE X (.Call (.Attribute o m apos) [] [] pos) (mMethG g C m c n ma aNil) := fun e => by
  obtain ⟨f, fd, ps, hm, F, hb, rfl⟩ := h.ex
  refine ⟨fun pins s σ H Q I h => ?_⟩
  refine PySem.W.methodCall_KW (pl := pl) (thn ((he e).run pins s σ H _ I (meth_readG h)) ?_) ht
  rintro u s1 ⟨x, H1, I1, rx, a, dx, fs, ex, ea, l, q⟩
  subst ex
  obtain rfl : u = Value.ref a := rx
  refine getmeth_ok I1 ea cl hm l ?_
  obtain ⟨F1, r1, k1, P1, hm1, h1⟩ := q
  obtain ⟨l2, q2⟩ := h1 _ r1 [] F1 H1 hm1 k1 (Sub.refl _) .nil
  exact PySem.W.callWith_K0 (first := [.ref a]) I1.kIn hm.kp (run_fnd (us := .ref a :: []) (vs := .ref a :: []) F hr hgu (kbn_all hb) I1 (.cons rfl .nil) .nil l2 rfl (by rw [List.append_nil]; exact q2))
/-- the method m of C keeps c where it raises -/
structure MethX (P : Program) (w : World) (K : Fg) (mg : Str → Option Value) (base : Heap) (k : Nat) (C m : Str) (n : Nat) (c : CtX) : Prop where
  ex : ∃ f fd ps, Meth K (He.ga K C) m f ∧ FnX P w K mg base k f fd ps c ∧ Binds K fd ps [] ∧ ps.length = n
theorem MethX.of {P : Program} {w : World} {K : Fg} {mg : Str → Option Value} {base : Heap} {k : Nat} {C m : Str} {c : CtX} {f : Addr} {fd : FuncData} {ps : List Str} (hm : Meth K (He.ga K C) m f) (F : FnX P w K mg base k f fd ps c) (hb : Binds K fd ps []) : MethX P w K mg base k C m ps.length c := ⟨⟨f, fd, ps, hm, F, hb, rfl⟩⟩
theorem ex_mth {c : CtX} {pl : Sem Bool} (h : MethX X.prog X.w X.K X.mg X.base k C m n c) (cl : Cls X.K (He.ga X.K C)) (hr : Rm k X.A) (hgu : X.A.guards = some []) (he : DE X.nox o ma) (ha : DA X.nox (a :: es) ms)
    (hst : starEach (a :: es) X.env = (false, eval a X.env) :: starEach es X.env := by rfl) (hpl : (backTo pos (starEach es X.env)).any (·.1) = false := by rfl)
    (ht : eval (.Call (.Attribute o m apos) (a :: es) [] pos) X.env = (do
      let ov ← eval o X.env
      standAt apos.atName
      let (f, first) ← holding [ov] (getMethod ov m pl)
      callWith pos f first (backTo pos (starEach (a :: es) X.env)) (backToKw pos (keywordEach [] X.env))) := by rfl) :
    EX X (.Call (.Attribute o m apos) (a :: es) [] pos) (mMethGX g C m c n ma ms) := by
  obtain ⟨f, fd, ps, h1, h2, h3, rfl⟩ := h.ex
  exact ex_methG he cl h1 h2 hr hgu h3 ha hst hpl ht
end
def KEqG (g : Nat) (P : Po) (x y : R) (r : Rho) : Prop := onN r g x fun _ _ _ nd => onL nd fun ws => onO (look r y) fun d => match d with
  | .list [] => P (.val (.bool ws.isEmpty)) r
  | _ => False
def mEqG (g : Nat) (ma mb : ME) : ME := fun r P => ma r fun x r1 => mb r1 fun y r2 => KEqG g P x.tmp y.tmp r2
section
variable {X : Cx} {a b : Expr} {ma mb : ME} {pos : Pos} {g : Nat}
theorem eqG_read {e : En} {s : L2.St} {H : Hp} {Q : VK} (h : T X.K e (mEqG g ma mb) s H Q) : tOp (rEqL0 X.K) (Tt X.K e (mTmp ma)) (Tt X.K e (mTmp mb)) s H Q := by
  obtain ⟨F, r, k, P, hm, hP⟩ := h
  refine ⟨F, r, k, fun x r1 => mb r1 fun y r2 => KEqG g P x y.tmp r2, hm, fun x r1 v1 F1 H1 hx k1 q1 t1 => ⟨F1, r1, k1, fun y r2 => KEqG g P x y r2, hx, fun y r2 v2 F2 H2 hy k2 q2 t2 => ?_⟩⟩
  obtain ⟨n, a, G, nd, e1, e2, e3, hx2⟩ := onN.ex hy
  obtain ⟨ws, rfl, hx3⟩ := onL.ex hx2
  obtain ⟨d, e4, hx4⟩ := onO.ex hx3
  subst e1
  cases t1
  obtain ⟨o, w1, w2, _⟩ := k2.node e2 e3 (by intro q; cases q)
  cases w2 with
  | @lst xs _ w2 =>
    split at hx4
    · obtain ⟨b, ys, rfl, h3, h4⟩ := (t2.look k2 e4).lst k2.sub
      cases h4
      refine ⟨a, b, xs, rfl, rfl, SqL.of w1, .inl h3, ?_⟩
      have he : xs.isEmpty = ws.isEmpty := by cases w2 <;> rfl
      rw [he]
      exact hP _ r2 _ F2 H2 hx4 k2 (q1.trans q2) (.val (.bl _))
    · exact hx4.elim
theorem dt_eqG (hu : X.A.units + 64 < cLine) (ha : DE X a ma) (hb : DE X b mb) (hm : behindInMarks .Eq b = false := by rfl) : DT X (.Compare a [.Eq] [b] pos) (mTest (mEqG g ma mb)) := fun e =>
  PT.imp (pt_cmpR (op_eqL0 hu) (ha.tmp e) (hb.tmp e) hm) fun s H Q h => tTest_of (fun s H Q h => eqG_read h) h
end
def xWhile (t : MT) (b : MS) (bx : MX) : MX := fun r P => ∃ W : Nat → Rho → Prop, (∃ m, W m r) ∧ ∀ m r, W m r → t r fun bb r1 => bb = true ∧ (bx r1 P ∨ b r1 ⟨fun r' => ∃ m', m' < m ∧ W m' r', fun _ _ => False, fun _ => False, fun r' => ∃ m', m' < m ∧ W m' r'⟩)
theorem pss_or {X : Cx} {a : List Stmt} {t u : TS} (h1 : PSs X a t) (h2 : PSs X a u) : PSs X a fun D s H => t D s H ∨ u D s H := ⟨fun pins s σ H D I q => q.elim (h1.run pins s σ H D I) (h2.run pins s σ H D I)⟩
theorem sx_while {X : Cx} {c : Expr} {body : List Stmt} {pos : Pos} {ta : MT} {m : MS} {n : MX} (hp : PassesOwn (model X.prog X.w) X.A X.env X.xe) (hc : DT X.nox c ta) (hb : DSs X.nox body m) (hx : SsX X body n) : SX X (.While c body [] pos) (xWhile ta m n) := fun e W tk =>
  PS.imp (ps_while hp (PT.nox (hc e)) (pss_or (PSs.nox (hb e)) (hx e W tk))) fun D s H ⟨F, r, k, P, ⟨V, ⟨m0, w0⟩, turn⟩, hP⟩ => by
    refine ⟨fun m s H => ∃ F1 r, Ok X.K e F1 r s H ∧ Sub F F1 ∧ V m r, ⟨m0, F, r, k, Sub.refl _, w0⟩, ?_⟩
    rintro m s1 H1 ⟨F1, r1, k1, q1, w1⟩
    refine ⟨F1, r1, k1, _, turn m r1 w1, fun b r2 F2 H2 hb2 k2 q2 => ?_⟩
    obtain ⟨rfl, hb2⟩ := hb2
    have q12 := q1.trans q2
    rw [if_pos rfl]
    refine ⟨fun s H => ∃ m', m' < m ∧ ∃ F1 r, Ok X.K e F1 r s H ∧ Sub F F1 ∧ V m' r, fun s' H' z => z, ?_⟩
    rcases hb2 with z | z
    · exact .inr ⟨F2, r2, k2, P, z, hP.mono q12⟩
    · refine .inl ⟨F2, r2, k2, _, z, ⟨?_, fun _ _ _ _ _ _ z => z.elim, fun _ _ _ _ z => z.elim, ?_⟩⟩
      · rintro r' s' F' H' ⟨m', lt, w'⟩ k' q'
        exact ⟨m', lt, F', r', k', q12.trans q', w'⟩
      · rintro r' s' F' H' ⟨m', lt, w'⟩ k' q'
        exact ⟨m', lt, F', r', k', q12.trans q', w'⟩
def xGh (g : Nat) (m : MX) : MX := fun r P => rqB (noGh r) (strict (r.set g (some (.gh []))) fun r1 => m r1 P)
theorem ssx_gh {X : Cx} {body : List Stmt} {m : MX} {g : Nat} (h : SsX X body m) : SsX X body (xGh g m) := fun e W tk =>
  PSs.imp (h e W tk) fun D s H ⟨F, r, k, P, hm, hh⟩ => by
    obtain ⟨ng, h2⟩ := rqB.ex hm
    exact ⟨F, _, k.ghNil (g := g) fun j G z => absurd z (noGh_of ng j G), P, h2.ex, hh⟩
end DL
namespace L51
open PySem L2 PyProof.Rows DL
def top (i : Nat) : Stmt := PySem.Challenge.pw_smallreaders_k51_machines_astray.main.body.getD i (.Pass ⟨0, 0, 0, 0⟩)
abbrev s_Run___init__ : Stmt := clsAt (top 9) 0
abbrev s_Run_failed : Stmt := clsAt (top 9) 1
abbrev s_Run_taken : Stmt := clsAt (top 9) 2
abbrev s_Run_signed : Stmt := clsAt (top 9) 3
abbrev s_Run_led : Stmt := clsAt (top 9) 4
abbrev s_Run_went_on : Stmt := clsAt (top 9) 5
abbrev s_run : Stmt := top 10
abbrev s__law_pen : Stmt := top 12
abbrev s__law_take : Stmt := top 13
abbrev s__law_failed : Stmt := top 14
abbrev s__law_gone_on : Stmt := top 15
abbrev s__law_run : Stmt := top 16
abbrev s__law_heard_run : Stmt := top 17
abbrev s__law_code : Stmt := top 18
abbrev s__law_codes : Stmt := top 19
abbrev s_law : Stmt := top 20
abbrev s_Astray___init__ : Stmt := clsAt (top 6) 0
end L51
namespace L51H
open PySem L2 PyProof.Rows DL L51
def fn : List He.DefD := [⟨("Run", some "__init__"), "__init__", "Run.__init__", defArgs s_Run___init__, defBody s_Run___init__, defScope s_Run___init__, [], []⟩, ⟨("Run", some "failed"), "failed", "Run.failed", defArgs s_Run_failed, defBody s_Run_failed, defScope s_Run_failed, [], []⟩, ⟨("Run", some "taken"), "taken", "Run.taken", defArgs s_Run_taken, defBody s_Run_taken, defScope s_Run_taken, [], []⟩, ⟨("Run", some "signed"), "signed", "Run.signed", defArgs s_Run_signed, defBody s_Run_signed, defScope s_Run_signed, [], []⟩, ⟨("Run", some "led"), "led", "Run.led", defArgs s_Run_led, defBody s_Run_led, defScope s_Run_led, [], []⟩, ⟨("Run", some "went_on"), "went_on", "Run.went_on", defArgs s_Run_went_on, defBody s_Run_went_on, defScope s_Run_went_on, [], []⟩, ⟨("run", none), "run", "run", defArgs s_run, defBody s_run, defScope s_run, [.int (0)], []⟩, ⟨("_law_pen", none), "_law_pen", "_law_pen", defArgs s__law_pen, defBody s__law_pen, defScope s__law_pen, [], []⟩, ⟨("_law_take", none), "_law_take", "_law_take", defArgs s__law_take, defBody s__law_take, defScope s__law_take, [], []⟩, ⟨("_law_failed", none), "_law_failed", "_law_failed", defArgs s__law_failed, defBody s__law_failed, defScope s__law_failed, [], []⟩, ⟨("_law_gone_on", none), "_law_gone_on", "_law_gone_on", defArgs s__law_gone_on, defBody s__law_gone_on, defScope s__law_gone_on, [], []⟩, ⟨("_law_run", none), "_law_run", "_law_run", defArgs s__law_run, defBody s__law_run, defScope s__law_run, [], []⟩, ⟨("_law_heard_run", none), "_law_heard_run", "_law_heard_run", defArgs s__law_heard_run, defBody s__law_heard_run, defScope s__law_heard_run, [], []⟩, ⟨("_law_code", none), "_law_code", "_law_code", defArgs s__law_code, defBody s__law_code, defScope s__law_code, [], []⟩, ⟨("_law_codes", none), "_law_codes", "_law_codes", defArgs s__law_codes, defBody s__law_codes, defScope s__law_codes, [], []⟩, ⟨("law", none), "law", "law", defArgs s_law, defBody s_law, defScope s_law, [], []⟩, ⟨("Astray", some "__init__"), "__init__", "Astray.__init__", defArgs s_Astray___init__, defBody s_Astray___init__, defScope s_Astray___init__, [], []⟩]
def fa : List He.Fa := [.glo "run", .glo "_law_pen", .glo "_law_take", .glo "_law_failed", .glo "_law_gone_on", .glo "_law_run", .glo "_law_heard_run", .glo "_law_code", .glo "_law_codes", .glo "law", .free "ValueError", .free "abs", .free "int", .free "isinstance", .free "len", .free "max", .free "range", .free "repr", .free "tuple", .cls "Run", .glo "Run", .noat "Run" "of_codes", .noat "Run" "of_text", .noat "Run" "now", .noat "Run" "here", .noat "Run" "heap", .noat "Run" "gone", .mkr "Run", .meth "Run" "failed", .meth "Run" "taken", .meth "Run" "signed", .meth "Run" "led", .meth "Run" "went_on", .glo "ReadError", .glo "Astray", .glo "NotPlain", .glo "NoText", .glo "NoBook", .glo "Endless", .glo "Bound"]
def cs : List (Str × D) := []
def ts : List (Str × Tab) := []
abbrev R : PySem.W.OpenRow := PySem.W.OpenLaw.row PySem.Challenge.rw_smallreaders_k51_machines_astray
def tls : List (Str × Str) := [("law", "law.<locals>.<lambda>")]
def xs : List XF := [.cat "Astray" ["ReadError"], .is1 "Astray" "Astray" true, .kin "Astray", .isB "Astray" "ValueError" true, .isA "Astray" ["Bound", "Endless", "NoBook", "NoText", "NotPlain"] false, .fld "Astray" "number", .mk1 "Astray" "number" true, .base "ReadError" true]
abbrev hk : PySem.W.Hook := hookT true 4 fa fn cs ts xs tls
def ob (s : PySem.W.SharedT) : AlT := obsTG true 4 fa fn cs ts xs tls (HandSHeadRun.getT s)
theorem ob_eq (s : PySem.W.SharedT) : ob s = hk.obs s.abs := obsTG_eq (HandSHeadRun.getT_eq s)
def loose : List Str := (["ReadError", "NoBook", "Endless", "NotPlain", "NoText", "Astray", "Bound", "Run", "run", "_law_pen", "_law_take", "_law_failed", "_law_gone_on", "_law_run", "_law_heard_run", "_law_code", "_law_codes"] : List Str)
theorem run3 {s a b c : Type} {o : Option s} {f : s → a} {g : s → b} {h : s → c} {x : a} {y : b} {z : c} (h1 : o.map f = some x) (h2 : o.map g = some y) (h3 : o.map h = some z) : o.map (fun s => (f s, g s, h s)) = some (x, y, z) := by
  cases o with
  | none => cases h1
  | some s =>
    cases h1
    cases h2
    cases h3
    rfl
section
open HandSHeadRun PySem.W
theorem run_f1 (w : World) (os : OsState) : (endF (stepQ (denQ tabQ) R.prog (w.withFollow "special-get-raises" false)) 6000 R.prog (w.withFollow "special-get-raises" false) os).map (fun s => looksF R.prog (boot_heap (w.withFollow "special-get-raises" false).params) s.abs) = some true := by kernel_rfl
theorem run_f2 (w : World) (os : OsState) : (endF (stepQ (denQ tabQ) R.prog (w.withFollow "special-get-raises" false)) 6000 R.prog (w.withFollow "special-get-raises" false) os).map (fun s => seenQ (PySem.W.view R.prog [20]) loose (importedModules R.prog.main.body) (fun s => xlAt (PySem.W.view R.prog [20]) [] s && recOk R.toRowW.records s) s.abs) = some (openGood (PySem.W.view R.prog [20]) loose) := by kernel_rfl
theorem run_f3 (w : World) (os : OsState) : (endF (stepQ (denQ tabQ) R.prog (w.withFollow "special-get-raises" false)) 6000 R.prog (w.withFollow "special-get-raises" false) os).map (fun s => ob s) = some (PySem.W.Hook.val hk (w.withFollow "special-get-raises" false)) := by kernel_rfl
theorem run_f (w : World) : HandSHeadRun.RunEq R (PySem.W.view R.prog [20]) hk ob 6000 loose (w.withFollow "special-get-raises" false) := fun os => run3 (run_f1 w os) (run_f2 w os) (run_f3 w os)
theorem run_t1 (w : World) (os : OsState) : (endF (stepQ (denQ tabQ) R.prog (w.withFollow "special-get-raises" true)) 6000 R.prog (w.withFollow "special-get-raises" true) os).map (fun s => looksF R.prog (boot_heap (w.withFollow "special-get-raises" true).params) s.abs) = some true := by kernel_rfl
theorem run_t2 (w : World) (os : OsState) : (endF (stepQ (denQ tabQ) R.prog (w.withFollow "special-get-raises" true)) 6000 R.prog (w.withFollow "special-get-raises" true) os).map (fun s => seenQ (PySem.W.view R.prog [20]) loose (importedModules R.prog.main.body) (fun s => xlAt (PySem.W.view R.prog [20]) [] s && recOk R.toRowW.records s) s.abs) = some (openGood (PySem.W.view R.prog [20]) loose) := by kernel_rfl
theorem run_t3 (w : World) (os : OsState) : (endF (stepQ (denQ tabQ) R.prog (w.withFollow "special-get-raises" true)) 6000 R.prog (w.withFollow "special-get-raises" true) os).map (fun s => ob s) = some (PySem.W.Hook.val hk (w.withFollow "special-get-raises" true)) := by kernel_rfl
theorem run_t (w : World) : HandSHeadRun.RunEq R (PySem.W.view R.prog [20]) hk ob 6000 loose (w.withFollow "special-get-raises" true) := fun os => run3 (run_t1 w os) (run_t2 w os) (run_t3 w os)
end
theorem run (w : World) : HandSHeadRun.RunEq R (PySem.W.view R.prog [20]) hk ob 6000 loose w := PySem.W.byRow2 "special-get-raises" (P := fun w => HandSHeadRun.RunEq R (PySem.W.view R.prog [20]) hk ob 6000 loose w) run_f run_t w
end L51H
namespace L51
open PySem L2 PyProof.Rows DL
/-- what the module says -/
structure Gb (w : World) (K : Fg) (mg : Str → Option Value) : Prop where
  b_ValueError : mg "ValueError" = none
  b_abs : mg "abs" = none
  b_int : mg "int" = none
  b_isinstance : mg "isinstance" = none
  b_len : mg "len" = none
  b_max : mg "max" = none
  b_range : mg "range" = none
  b_repr : mg "repr" = none
  b_tuple : mg "tuple" = none
  n_ReadError : GaAt K mg "ReadError"
  n_Astray : GaAt K mg "Astray"
  n_NotPlain : GaAt K mg "NotPlain"
  n_NoText : GaAt K mg "NoText"
  n_NoBook : GaAt K mg "NoBook"
  n_Endless : GaAt K mg "Endless"
  n_Bound : GaAt K mg "Bound"
  x0 : XF.ok K (.cat "Astray" ["ReadError"]) = true
  x1 : XF.ok K (.is1 "Astray" "Astray" true) = true
  x2 : XF.ok K (.kin "Astray") = true
  x3 : XF.ok K (.isB "Astray" "ValueError" true) = true
  x4 : XF.ok K (.isA "Astray" ["Bound", "Endless", "NoBook", "NoText", "NotPlain"] false) = true
  x5 : XF.ok K (.fld "Astray" "number") = true
  x6 : XF.ok K (.mk1 "Astray" "number" true) = true
  x7 : XF.ok K (.base "ReadError" true) = true
  k_Run : Cls K (He.ga K "Run")
  gl_Run : GaAt K mg "Run"
  a_Run_of_codes : NoAttr K (He.ga K "Run") "of_codes"
  a_Run_of_text : NoAttr K (He.ga K "Run") "of_text"
  a_Run_now : NoAttr K (He.ga K "Run") "now"
  a_Run_here : NoAttr K (He.ga K "Run") "here"
  a_Run_heap : NoAttr K (He.ga K "Run") "heap"
  a_Run_gone : NoAttr K (He.ga K "Run") "gone"
  i_Run : L2.Mk K (He.ga K "Run") (He.ma K (He.ga K "Run") "__init__")
  m_Run_failed : Meth K (He.ga K "Run") "failed" (He.ma K (He.ga K "Run") "failed")
  m_Run_taken : Meth K (He.ga K "Run") "taken" (He.ma K (He.ga K "Run") "taken")
  m_Run_signed : Meth K (He.ga K "Run") "signed" (He.ma K (He.ga K "Run") "signed")
  m_Run_led : Meth K (He.ga K "Run") "led" (He.ma K (He.ga K "Run") "led")
  m_Run_went_on : Meth K (He.ga K "Run") "went_on" (He.ma K (He.ga K "Run") "went_on")
def N_Run___init__ : List Str := ["self", "codes", "text", "at", "#"]
theorem sc_Run___init__ : FnScope N_Run___init__ ["self", "codes", "text", "at"] (defScope s_Run___init__) := ⟨rfl, rfl, rfl, by decide +kernel, rfl, by decide +kernel, by decide +kernel⟩
def m_Run___init___0 : MS :=
  sFldSet 4 "Run" "gone" 5 (mVal (.int 0)) (mVar 0)
def m_Run___init___1 : MS :=
  sSeq (sFldSet 4 "Run" "heap" 4 (mNod 4 (mLst (aNil))) (mVar 0))
  (m_Run___init___0)
def m_Run___init___2 : MS :=
  sSeq (sFldSet 4 "Run" "here" 3 (mVar 3) (mVar 0))
  (m_Run___init___1)
def m_Run___init___3 : MS :=
  sSeq (sFldSet 4 "Run" "now" 2 (mVal (.int 0)) (mVar 0))
  (m_Run___init___2)
def m_Run___init___4 : MS :=
  sSeq (sFldSet 4 "Run" "of_text" 1 (mVar 2) (mVar 0))
  (m_Run___init___3)
def m_Run___init___5 : MS :=
  sSeq (sFldSet 4 "Run" "of_codes" 0 (mVar 1) (mVar 0))
  (m_Run___init___4)
def m_Run___init__ : MS := m_Run___init___5
def mi_Run___init__ : MS :=
  sSeq (sFldSet 4 "Run" "of_codes" 0 (mVar 1) (mVar 0))
  (sSeq (sFldSet 4 "Run" "of_text" 1 (mVar 2) (mVar 0))
  (sSeq (sFldSet 4 "Run" "now" 2 (mVal (.int 0)) (mVar 0))
  (sSeq (sFldSet 4 "Run" "here" 3 (mVar 3) (mVar 0))
  (sSeq (sFldSet 4 "Run" "heap" 4 (mNod 4 (mLst (aNil))) (mVar 0))
  (sFldSet 4 "Run" "gone" 5 (mVal (.int 0)) (mVar 0))))))
theorem me_Run___init__ : mi_Run___init__ = m_Run___init__ := by rfl
theorem d_Run___init__ {P : Program} {w : World} {K : Fg} {mg : Str → Option Value} {base : Heap} {f : Addr} {cdv : Value} {A : Around} {outer : List Env} {s : Shared} {H : Hp} {E : XK} {k : Nat} (g : Gb w K mg)
    (hr : Rm k (A.deeper (envOfC "Run.__init__" (defScope s_Run___init__) s.heap.objs.size f cdv))) (hgu : A.guards = some []) :
    DSs (cxOf CX0 P w K mg base N_Run___init__ "Run.__init__" (defScope s_Run___init__) f cdv A outer s H E).nox (defBody s_Run___init__) (m_Run___init__) :=
  have nd := sc_Run___init__.nd
  have h : DSs (cxOf CX0 P w K mg base N_Run___init__ "Run.__init__" (defScope s_Run___init__) f cdv A outer s H E).nox (defBody s_Run___init__) (mi_Run___init__) :=
  (dss_cons (ds_fld (j := 0) g.k_Run g.a_Run_of_codes (dv 0) (dv 1))
  (dss_cons (ds_fld (j := 1) g.k_Run g.a_Run_of_text (dv 0) (dv 2))
  (dss_cons (ds_fld (j := 2) g.k_Run g.a_Run_now (dv 0) (de_int))
  (dss_cons (ds_fld (j := 3) g.k_Run g.a_Run_here (dv 0) (dv 3))
  (dss_cons (ds_fld (j := 4) g.k_Run g.a_Run_heap (dv 0) (de_nod (de_lst (da_nil))))
  (dss_one (ds_fld (j := 5) g.k_Run g.a_Run_gone (dv 0) (de_int))))))))
  me_Run___init__ ▸ h
def N_Run_failed : List Str := ["self", "#", "number", "place"]
theorem sc_Run_failed : FnScope N_Run_failed ["self"] (defScope s_Run_failed) := ⟨rfl, rfl, rfl, by decide +kernel, rfl, by decide +kernel, by decide +kernel⟩
def m_Run_failed_0 : MS :=
  sRet (mVal (.bool true))
def m_Run_failed_1 : MS :=
  sSeq (sTgs [.fld 1 0 "Run" "now" 2, .fld 1 0 "Run" "here" 3] (mTup (aCons (mVar 2) (aCons (mVar 3) (aNil)))))
  (m_Run_failed_0)
def m_Run_failed_2 : MS :=
  sIf (mTest (mOp oIsNot (mVar 3) (mVal .none))) (m_Run_failed_1) (sNext)
def m_Run_failed_3 : MS :=
  sSeq (sAsg (mPopG 1 (mFld 1 "Run" "heap" 4 (mVar 0))) (gTp 2 (gCs (gNm 2) (gCs (gNm 3) (gNl)))))
  (m_Run_failed_2)
def m_Run_failed_4 : MS :=
  sRet (mVal (.bool false))
def m_Run_failed_5 : MS :=
  sSeq (sWhile (mTest (mNeG 1 (mFld 1 "Run" "heap" 4 (mVar 0)) (mLst (aNil))))
  (m_Run_failed_3))
  (m_Run_failed_4)
def m_Run_failed : MS := m_Run_failed_5
def mi_Run_failed : MS :=
  sSeq (sWhile (mTest (mNeG 1 (mFld 1 "Run" "heap" 4 (mVar 0)) (mLst (aNil))))
  (sSeq (sAsg (mPopG 1 (mFld 1 "Run" "heap" 4 (mVar 0))) (gTp 2 (gCs (gNm 2) (gCs (gNm 3) (gNl)))))
  (sIf (mTest (mOp oIsNot (mVar 3) (mVal .none))) (sSeq (sTgs [.fld 1 0 "Run" "now" 2, .fld 1 0 "Run" "here" 3] (mTup (aCons (mVar 2) (aCons (mVar 3) (aNil)))))
  (sRet (mVal (.bool true)))) (sNext))))
  (sRet (mVal (.bool false)))
theorem me_Run_failed : mi_Run_failed = m_Run_failed := by rfl
theorem d_Run_failed {P : Program} {w : World} {K : Fg} {mg : Str → Option Value} {base : Heap} {f : Addr} {cdv : Value} {A : Around} {outer : List Env} {s : Shared} {H : Hp} {E : XK} {k : Nat} (g : Gb w K mg)
    (hr : Rm k (A.deeper (envOfC "Run.failed" (defScope s_Run_failed) s.heap.objs.size f cdv))) (hgu : A.guards = some []) :
    DSs (cxOf CX0 P w K mg base N_Run_failed "Run.failed" (defScope s_Run_failed) f cdv A outer s H E).nox (defBody s_Run_failed) (m_Run_failed) :=
  have nd := sc_Run_failed.nd
  have h : DSs (cxOf CX0 P w K mg base N_Run_failed "Run.failed" (defScope s_Run_failed) f cdv A outer s H E).nox (defBody s_Run_failed) (mi_Run_failed) :=
  (dss_cons (ds_while PassesOwn.never (dt_neG (u64 hr) (de_fld (j := 4) g.k_Run g.a_Run_heap (dv 0)) (de_lst (da_nil)))
  (dss_cons (ds_asg (vs := [2, 3]) (de_popG (de_fld (j := 4) g.k_Run g.a_Run_heap (dv 0))) (dg_tup (by rfl) (dgs_cons (dgn 2 nd) (dgs_cons (dgn 3 nd) (dgs_nil)))))
  (dss_one (ds_if (dtc opd_isnot (dv 3) (de_non)) (dss_cons (ds_tgs (by rfl) (dtgs_cons (dtg_fld (g := 1) (i := 0) (j := 2) g.k_Run g.a_Run_now (by rfl) (by first | exact .inl rfl | exact .inr (.inl rfl) | exact .inr (.inr rfl))) (dtgs_cons (dtg_fld (g := 1) (i := 0) (j := 3) g.k_Run g.a_Run_here (by rfl) (by first | exact .inl rfl | exact .inr (.inl rfl) | exact .inr (.inr rfl))) (dtgs_nil))) (de_tup (da_cons (dv 2) (da_cons (dv 3) (da_nil)))))
  (dss_one (ds_ret (de_bl)))) (dss_nil)))))
  (dss_one (ds_ret (de_bl))))
  me_Run_failed ▸ h
def N_Run_taken : List Str := ["self", "is_fork", "#"]
theorem sc_Run_taken : FnScope N_Run_taken ["self", "is_fork"] (defScope s_Run_taken) := ⟨rfl, rfl, rfl, by decide +kernel, rfl, by decide +kernel, by decide +kernel⟩
def m_Run_taken_0 : MS :=
  sRet (mPopG 2 (mFld 2 "Run" "heap" 4 (mVar 0)))
def m_Run_taken_1 : MS :=
  sSeq (sIf (bOr (mTest (mEqG 2 (mFld 2 "Run" "heap" 4 (mVar 0)) (mLst (aNil)))) (mTest (mOp oNe (mOp oIsNot (mOp oIxA (mIxN 2 (mFld 2 "Run" "heap" 4 (mVar 0)) (mNeg (mVal (.int 1)))) (mVal (.int 1))) (mVal .none)) (mVar 1)))) (sNo) (sNext))
  (m_Run_taken_0)
def m_Run_taken : MS := m_Run_taken_1
def mi_Run_taken : MS :=
  sSeq (sIf (bOr (mTest (mEqG 2 (mFld 2 "Run" "heap" 4 (mVar 0)) (mLst (aNil)))) (mTest (mOp oNe (mOp oIsNot (mOp oIxA (mIxN 2 (mFld 2 "Run" "heap" 4 (mVar 0)) (mNeg (mVal (.int 1)))) (mVal (.int 1))) (mVal .none)) (mVar 1)))) (sNo) (sNext))
  (sRet (mPopG 2 (mFld 2 "Run" "heap" 4 (mVar 0))))
theorem me_Run_taken : mi_Run_taken = m_Run_taken := by rfl
theorem d_Run_taken {P : Program} {w : World} {K : Fg} {mg : Str → Option Value} {base : Heap} {f : Addr} {cdv : Value} {A : Around} {outer : List Env} {s : Shared} {H : Hp} {E : XK} {k : Nat} (g : Gb w K mg)
    (hr : Rm k (A.deeper (envOfC "Run.taken" (defScope s_Run_taken) s.heap.objs.size f cdv))) (hgu : A.guards = some []) :
    DSs (cxOf CX0 P w K mg base N_Run_taken "Run.taken" (defScope s_Run_taken) f cdv A outer s H E).nox (defBody s_Run_taken) (m_Run_taken) :=
  have nd := sc_Run_taken.nd
  have h : DSs (cxOf CX0 P w K mg base N_Run_taken "Run.taken" (defScope s_Run_taken) f cdv A outer s H E).nox (defBody s_Run_taken) (mi_Run_taken) :=
  (dss_cons (ds_if (dt_w (dw_or (dt_eqG (u64 hr) (de_fld (j := 4) g.k_Run g.a_Run_heap (dv 0)) (de_lst (da_nil))) (dw_or1 (dtc (opd_ne (u64 hr)) (dec opd_isnot (de_ixA (u1 hr) (de_ixN (u1 hr) (de_fld (j := 4) g.k_Run g.a_Run_heap (dv 0)) (de_neg (de_int))) (de_int)) (de_non)) (dv 1))))) (dss_one (ds_no)) (dss_nil))
  (dss_one (ds_ret (de_popG (de_fld (j := 4) g.k_Run g.a_Run_heap (dv 0))))))
  me_Run_taken ▸ h
def mx_Run_taken : MX :=
  xIf (bOr (mTest (mEqG 2 (mFld 2 "Run" "heap" 4 (mVar 0)) (mLst (aNil)))) (mTest (mOp oNe (mOp oIsNot (mOp oIxA (mIxN 2 (mFld 2 "Run" "heap" 4 (mVar 0)) (mNeg (mVal (.int 1)))) (mVal (.int 1))) (mVal .none)) (mVar 1)))) (xRaise1 "Astray" "number" (mFld 2 "Run" "now" 2 (mVar 0))) (xNo)
theorem x_Run_taken {P : Program} {w : World} {K : Fg} {mg : Str → Option Value} {base : Heap} {f : Addr} {cdv : Value} {A : Around} {outer : List Env} {s : Shared} {H : Hp} {E : XK} {k : Nat} (g : Gb w K mg)
    (k_Astray : XMk1 P w K mg base "Astray" "number")
    (hr : Rm k (A.deeper (envOfC "Run.taken" (defScope s_Run_taken) s.heap.objs.size f cdv))) (hgu : A.guards = some []) (h2 : 2 ≤ k) :
    SsX (cxOf (L2.CX P w) P w K mg base N_Run_taken "Run.taken" (defScope s_Run_taken) f cdv A outer s H E) (defBody s_Run_taken) (mx_Run_taken) :=
  have nd := sc_Run_taken.nd
  ssx_here (sx_if (dt_w (dw_or (dt_eqG (u64 hr) (de_fld (j := 4) g.k_Run g.a_Run_heap (dv 0)) (de_lst (da_nil))) (dw_or1 (dtc (opd_ne (u64 hr)) (dec opd_isnot (de_ixA (u1 hr) (de_ixN (u1 hr) (de_fld (j := 4) g.k_Run g.a_Run_heap (dv 0)) (de_neg (de_int))) (de_int)) (de_non)) (dv 1))))) (ssx_here (sx_raise1 rfl k_Astray hr h2 (by rfl) (de_fld (j := 2) g.k_Run g.a_Run_now (dv 0)))) (ssx_no))
def N_Run_signed : List Str := ["self", "word", "signs", "#"]
theorem sc_Run_signed : FnScope N_Run_signed ["self", "word", "signs"] (defScope s_Run_signed) := ⟨rfl, rfl, rfl, by decide +kernel, rfl, by decide +kernel, by decide +kernel⟩
def m_Run_signed_0 (c_Run_failed : Ct) : MS :=
  sRet (mVal (.bool true))
def m_Run_signed_1 (c_Run_failed : Ct) : MS :=
  sSeq (sFldAdd 3 "Run" "now" 2 (mVar 0) (mVal (.int 1)))
  (m_Run_signed_0 c_Run_failed)
def m_Run_signed_2 (c_Run_failed : Ct) : MS :=
  sSeq (sFldAdd 3 "Run" "here" 3 (mVar 0) (mVal (.int 1)))
  (m_Run_signed_1 c_Run_failed)
def m_Run_signed_3 (c_Run_failed : Ct) : MS :=
  sRet (mMethG 3 "Run" "failed" c_Run_failed 1 (mVar 0) (aNil))
def m_Run_signed_4 (c_Run_failed : Ct) : MS :=
  sSeq (sIf (bAnd (mTest (mOp oLt (mFld 3 "Run" "here" 3 (mVar 0)) (mCall cLen (aCons (mFld 3 "Run" "of_text" 1 (mVar 0)) (aNil))))) (mTest (mOp oEq (mSel 2 (mDIn false 2 (mOp oIxA (mFld 3 "Run" "of_text" 1 (mVar 0)) (mFld 3 "Run" "here" 3 (mVar 0)))) (mOp oIn (mOp oIxA (mFld 3 "Run" "of_text" 1 (mVar 0)) (mFld 3 "Run" "here" 3 (mVar 0))) (mVar 2))) (mOp oEq (mVar 1) (mVal (.str ("sign" : Str))))))) (m_Run_signed_2 c_Run_failed) (sNext))
  (m_Run_signed_3 c_Run_failed)
def m_Run_signed (c_Run_failed : Ct) : MS := m_Run_signed_4 c_Run_failed
def mi_Run_signed (c_Run_failed : Ct) : MS :=
  sSeq (sIf (bAnd (mTest (mOp oLt (mFld 3 "Run" "here" 3 (mVar 0)) (mCall cLen (aCons (mFld 3 "Run" "of_text" 1 (mVar 0)) (aNil))))) (mTest (mOp oEq (mSel 2 (mDIn false 2 (mOp oIxA (mFld 3 "Run" "of_text" 1 (mVar 0)) (mFld 3 "Run" "here" 3 (mVar 0)))) (mOp oIn (mOp oIxA (mFld 3 "Run" "of_text" 1 (mVar 0)) (mFld 3 "Run" "here" 3 (mVar 0))) (mVar 2))) (mOp oEq (mVar 1) (mVal (.str ("sign" : Str))))))) (sSeq (sFldAdd 3 "Run" "here" 3 (mVar 0) (mVal (.int 1)))
  (sSeq (sFldAdd 3 "Run" "now" 2 (mVar 0) (mVal (.int 1)))
  (sRet (mVal (.bool true))))) (sNext))
  (sRet (mMethG 3 "Run" "failed" c_Run_failed 1 (mVar 0) (aNil)))
theorem me_Run_signed (c_Run_failed : Ct) : mi_Run_signed c_Run_failed = m_Run_signed c_Run_failed := by rfl
theorem d_Run_signed {P : Program} {w : World} {K : Fg} {mg : Str → Option Value} {base : Heap} {f : Addr} {cdv : Value} {A : Around} {outer : List Env} {s : Shared} {H : Hp} {E : XK} {k : Nat} {c_Run_failed : Ct} (g : Gb w K mg)
    (h_Run_failed_1_M : MethP P w K mg base k "Run" "failed" 1 c_Run_failed)
    (hr : Rm k (A.deeper (envOfC "Run.signed" (defScope s_Run_signed) s.heap.objs.size f cdv))) (hgu : A.guards = some []) :
    DSs (cxOf CX0 P w K mg base N_Run_signed "Run.signed" (defScope s_Run_signed) f cdv A outer s H E).nox (defBody s_Run_signed) (m_Run_signed c_Run_failed) :=
  have nd := sc_Run_signed.nd
  have h : DSs (cxOf CX0 P w K mg base N_Run_signed "Run.signed" (defScope s_Run_signed) f cdv A outer s H E).nox (defBody s_Run_signed) (mi_Run_signed c_Run_failed) :=
  (dss_cons (ds_if (dt_w (dw_and (dtc opd_lt (de_fld (j := 3) g.k_Run g.a_Run_here (dv 0)) (de_callB calld_len (by rfl) g.b_len (by rfl) (da_cons (de_fld (j := 1) g.k_Run g.a_Run_of_text (dv 0)) (da_nil)))) (dw_and1 (dtc (opd_eq (u64 hr)) (de_sel (de_din (u1 hr) (i := 2) (by rfl) (by first | exact .inl rfl | exact .inr (.inl rfl) | exact .inr (.inr rfl)) (de_ixA (u1 hr) (de_fld (j := 1) g.k_Run g.a_Run_of_text (dv 0)) (de_fld (j := 3) g.k_Run g.a_Run_here (dv 0)))) (de_cmp (opd_in (u65 hr)) (de_ixA (u1 hr) (de_fld (j := 1) g.k_Run g.a_Run_of_text (dv 0)) (de_fld (j := 3) g.k_Run g.a_Run_here (dv 0))) (dv 2) (by rfl))) (dec (opd_eq (u64 hr)) (dv 1) (de_str)))))) (dss_cons (ds_fldadd (j := 3) g.k_Run g.a_Run_here (dv 0) (de_int))
  (dss_cons (ds_fldadd (j := 2) g.k_Run g.a_Run_now (dv 0) (de_int))
  (dss_one (ds_ret (de_bl))))) (dss_nil))
  (dss_one (ds_ret (de_mth0 h_Run_failed_1_M g.k_Run hr hgu (dv 0)))))
  me_Run_signed c_Run_failed ▸ h
def N_Run_led : List Str := ["self", "word", "to", "#", "number", "place"]
theorem sc_Run_led : FnScope N_Run_led ["self", "word", "to"] (defScope s_Run_led) := ⟨rfl, rfl, rfl, by decide +kernel, rfl, by decide +kernel, by decide +kernel⟩
def m_Run_led_0 (c_Run_taken : Ct) : MS :=
  sFldAdd 3 "Run" "now" 2 (mVar 0) (mVal (.int 1))
def m_Run_led_1 (c_Run_taken : Ct) : MS :=
  sSeq (sExpr (mAppG 3 (mFld 3 "Run" "heap" 4 (mVar 0)) (mTup (aCons (mVar 2) (aCons (mFld 3 "Run" "here" 3 (mVar 0)) (aNil))))))
  (m_Run_led_0 c_Run_taken)
def m_Run_led_2 (c_Run_taken : Ct) : MS :=
  sFldSet 3 "Run" "now" 2 (mVar 2) (mVar 0)
def m_Run_led_3 (c_Run_taken : Ct) : MS :=
  sSeq (sExpr (mAppG 3 (mFld 3 "Run" "heap" 4 (mVar 0)) (mTup (aCons (mOp oAdd (mFld 3 "Run" "now" 2 (mVar 0)) (mVal (.int 1))) (aCons (mVal .none) (aNil))))))
  (m_Run_led_2 c_Run_taken)
def m_Run_led_4 (c_Run_taken : Ct) : MS :=
  sIf (mTest (mOp oEq (mVar 1) (mVal (.str ("back" : Str))))) (sFldSet 3 "Run" "here" 3 (mVar 5) (mVar 0)) (sNext)
def m_Run_led_5 (c_Run_taken : Ct) : MS :=
  sSeq (sFldSet 3 "Run" "now" 2 (mVar 2) (mVar 0))
  (m_Run_led_4 c_Run_taken)
def m_Run_led_6 (c_Run_taken : Ct) : MS :=
  sSeq (sAsg (mMethG 3 "Run" "taken" c_Run_taken 2 (mVar 0) (aCons (mVal (.bool true)) (aNil))) (gTp 2 (gCs (gNm 4) (gCs (gNm 5) (gNl)))))
  (m_Run_led_5 c_Run_taken)
def m_Run_led_7 (c_Run_taken : Ct) : MS :=
  sIf (mTest (mOp oEq (mVar 1) (mVal (.str ("call" : Str))))) (m_Run_led_3 c_Run_taken) (m_Run_led_6 c_Run_taken)
def m_Run_led_8 (c_Run_taken : Ct) : MS :=
  sRet (mVal (.bool true))
def m_Run_led_9 (c_Run_taken : Ct) : MS :=
  sSeq (sIf (mTest (mOp oEq (mVar 1) (mVal (.str ("split" : Str))))) (m_Run_led_1 c_Run_taken) (m_Run_led_7 c_Run_taken))
  (m_Run_led_8 c_Run_taken)
def m_Run_led (c_Run_taken : Ct) : MS := m_Run_led_9 c_Run_taken
def mi_Run_led (c_Run_taken : Ct) : MS :=
  sSeq (sIf (mTest (mOp oEq (mVar 1) (mVal (.str ("split" : Str))))) (sSeq (sExpr (mAppG 3 (mFld 3 "Run" "heap" 4 (mVar 0)) (mTup (aCons (mVar 2) (aCons (mFld 3 "Run" "here" 3 (mVar 0)) (aNil))))))
  (sFldAdd 3 "Run" "now" 2 (mVar 0) (mVal (.int 1)))) (sIf (mTest (mOp oEq (mVar 1) (mVal (.str ("call" : Str))))) (sSeq (sExpr (mAppG 3 (mFld 3 "Run" "heap" 4 (mVar 0)) (mTup (aCons (mOp oAdd (mFld 3 "Run" "now" 2 (mVar 0)) (mVal (.int 1))) (aCons (mVal .none) (aNil))))))
  (sFldSet 3 "Run" "now" 2 (mVar 2) (mVar 0))) (sSeq (sAsg (mMethG 3 "Run" "taken" c_Run_taken 2 (mVar 0) (aCons (mVal (.bool true)) (aNil))) (gTp 2 (gCs (gNm 4) (gCs (gNm 5) (gNl)))))
  (sSeq (sFldSet 3 "Run" "now" 2 (mVar 2) (mVar 0))
  (sIf (mTest (mOp oEq (mVar 1) (mVal (.str ("back" : Str))))) (sFldSet 3 "Run" "here" 3 (mVar 5) (mVar 0)) (sNext))))))
  (sRet (mVal (.bool true)))
theorem me_Run_led (c_Run_taken : Ct) : mi_Run_led c_Run_taken = m_Run_led c_Run_taken := by rfl
theorem d_Run_led {P : Program} {w : World} {K : Fg} {mg : Str → Option Value} {base : Heap} {f : Addr} {cdv : Value} {A : Around} {outer : List Env} {s : Shared} {H : Hp} {E : XK} {k : Nat} {c_Run_taken : Ct} (g : Gb w K mg)
    (h_Run_taken_2_M : MethP P w K mg base k "Run" "taken" 2 c_Run_taken)
    (hr : Rm k (A.deeper (envOfC "Run.led" (defScope s_Run_led) s.heap.objs.size f cdv))) (hgu : A.guards = some []) :
    DSs (cxOf CX0 P w K mg base N_Run_led "Run.led" (defScope s_Run_led) f cdv A outer s H E).nox (defBody s_Run_led) (m_Run_led c_Run_taken) :=
  have nd := sc_Run_led.nd
  have h : DSs (cxOf CX0 P w K mg base N_Run_led "Run.led" (defScope s_Run_led) f cdv A outer s H E).nox (defBody s_Run_led) (mi_Run_led c_Run_taken) :=
  (dss_cons (ds_if (dtc (opd_eq (u64 hr)) (dv 1) (de_str)) (dss_cons (ds_expr (de_appG (de_fld (j := 4) g.k_Run g.a_Run_heap (dv 0)) (de_tup (da_cons (dv 2) (da_cons (de_fld (j := 3) g.k_Run g.a_Run_here (dv 0)) (da_nil))))))
  (dss_one (ds_fldadd (j := 2) g.k_Run g.a_Run_now (dv 0) (de_int)))) (dss_one (ds_if (dtc (opd_eq (u64 hr)) (dv 1) (de_str)) (dss_cons (ds_expr (de_appG (de_fld (j := 4) g.k_Run g.a_Run_heap (dv 0)) (de_tup (da_cons (de_op opd_add (de_fld (j := 2) g.k_Run g.a_Run_now (dv 0)) (de_int)) (da_cons (de_non) (da_nil))))))
  (dss_one (ds_fld (j := 2) g.k_Run g.a_Run_now (dv 0) (dv 2)))) (dss_cons (ds_asg (vs := [4, 5]) (de_mth h_Run_taken_2_M g.k_Run hr hgu (dv 0) (da_cons (de_bl) (da_nil))) (dg_tup (by rfl) (dgs_cons (dgn 4 nd) (dgs_cons (dgn 5 nd) (dgs_nil)))))
  (dss_cons (ds_fld (j := 2) g.k_Run g.a_Run_now (dv 0) (dv 2))
  (dss_one (ds_if (dtc (opd_eq (u64 hr)) (dv 1) (de_str)) (dss_one (ds_fld (j := 3) g.k_Run g.a_Run_here (dv 0) (dv 5))) (dss_nil))))))))
  (dss_one (ds_ret (de_bl))))
  me_Run_led c_Run_taken ▸ h
def mx_Run_led (c_Run_taken : Ct) (cx_Run_taken : CtX) : MX :=
  xIf (mTest (mOp oEq (mVar 1) (mVal (.str ("split" : Str))))) (xNo) (xIf (mTest (mOp oEq (mVar 1) (mVal (.str ("call" : Str))))) (xNo) (mMethGX 3 "Run" "taken" cx_Run_taken 2 (mVar 0) (aCons (mVal (.bool true)) (aNil))))
theorem x_Run_led {P : Program} {w : World} {K : Fg} {mg : Str → Option Value} {base : Heap} {f : Addr} {cdv : Value} {A : Around} {outer : List Env} {s : Shared} {H : Hp} {E : XK} {k : Nat} {c_Run_taken : Ct} {cx_Run_taken : CtX} (g : Gb w K mg)
    (h_Run_taken_2_M : MethP P w K mg base k "Run" "taken" 2 c_Run_taken)
    (xh_Run_taken_2_M : MethX P w K mg base k "Run" "taken" 2 cx_Run_taken)
    (hr : Rm k (A.deeper (envOfC "Run.led" (defScope s_Run_led) s.heap.objs.size f cdv))) (hgu : A.guards = some []) (h2 : 2 ≤ k) :
    SsX (cxOf (L2.CX P w) P w K mg base N_Run_led "Run.led" (defScope s_Run_led) f cdv A outer s H E) (defBody s_Run_led) (mx_Run_led c_Run_taken cx_Run_taken) :=
  have nd := sc_Run_led.nd
  ssx_here (sx_if (dtc (opd_eq (u64 hr)) (dv 1) (de_str)) (ssx_no) (ssx_here (sx_if (dtc (opd_eq (u64 hr)) (dv 1) (de_str)) (ssx_no) (ssx_here (sx_asg (ex_mth xh_Run_taken_2_M g.k_Run hr hgu (dv 0) (da_cons (de_bl) (da_nil))))))))
def N_Run_went_on : List Str := ["self", "code", "#", "word", "more", "place"]
theorem sc_Run_went_on : FnScope N_Run_went_on ["self", "code"] (defScope s_Run_went_on) := ⟨rfl, rfl, rfl, by decide +kernel, rfl, by decide +kernel, by decide +kernel⟩
def m_Run_went_on_0 (c_Run_signed : Ct) (c_Run_led : Ct) (c_Run_taken : Ct) (c_Run_failed : Ct) : MS :=
  sRet (mMethG 2 "Run" "signed" c_Run_signed 3 (mVar 0) (aCons (mVar 3) (aCons (mOp oIxA (mVar 4) (mVal (.int 0))) (aNil))))
def m_Run_went_on_1 (c_Run_signed : Ct) (c_Run_led : Ct) (c_Run_taken : Ct) (c_Run_failed : Ct) : MS :=
  sRet (mMethG 2 "Run" "led" c_Run_led 3 (mVar 0) (aCons (mVar 3) (aCons (mOp oIxA (mVar 4) (mVal (.int 0))) (aNil))))
def m_Run_went_on_2 (c_Run_signed : Ct) (c_Run_led : Ct) (c_Run_taken : Ct) (c_Run_failed : Ct) : MS :=
  sRet (mVal (.bool true))
def m_Run_went_on_3 (c_Run_signed : Ct) (c_Run_led : Ct) (c_Run_taken : Ct) (c_Run_failed : Ct) : MS :=
  sSeq (sTgs [.fld 2 0 "Run" "now" 2, .nm 5] (mMethG 2 "Run" "taken" c_Run_taken 2 (mVar 0) (aCons (mVal (.bool false)) (aNil))))
  (m_Run_went_on_2 c_Run_signed c_Run_led c_Run_taken c_Run_failed)
def m_Run_went_on_4 (c_Run_signed : Ct) (c_Run_led : Ct) (c_Run_taken : Ct) (c_Run_failed : Ct) : MS :=
  sExpr (mMethG 2 "Run" "taken" c_Run_taken 2 (mVar 0) (aCons (mVal (.bool true)) (aNil)))
def m_Run_went_on_5 (c_Run_signed : Ct) (c_Run_led : Ct) (c_Run_taken : Ct) (c_Run_failed : Ct) : MS :=
  sRet (mMethG 2 "Run" "failed" c_Run_failed 1 (mVar 0) (aNil))
def m_Run_went_on_6 (c_Run_signed : Ct) (c_Run_led : Ct) (c_Run_taken : Ct) (c_Run_failed : Ct) : MS :=
  sSeq (sIf (mTest (mOp oEq (mVar 3) (mVal (.str ("cut" : Str))))) (m_Run_went_on_4 c_Run_signed c_Run_led c_Run_taken c_Run_failed) (sNext))
  (m_Run_went_on_5 c_Run_signed c_Run_led c_Run_taken c_Run_failed)
def m_Run_went_on_7 (c_Run_signed : Ct) (c_Run_led : Ct) (c_Run_taken : Ct) (c_Run_failed : Ct) : MS :=
  sSeq (sIf (mTest (mOp oEq (mVar 3) (mVal (.str ("return" : Str))))) (m_Run_went_on_3 c_Run_signed c_Run_led c_Run_taken c_Run_failed) (sNext))
  (m_Run_went_on_6 c_Run_signed c_Run_led c_Run_taken c_Run_failed)
def m_Run_went_on_8 (c_Run_signed : Ct) (c_Run_led : Ct) (c_Run_taken : Ct) (c_Run_failed : Ct) : MS :=
  sSeq (sIf (mTest (mOp oNeU (mVar 4) (mLst (aNil)))) (m_Run_went_on_1 c_Run_signed c_Run_led c_Run_taken c_Run_failed) (sNext))
  (m_Run_went_on_7 c_Run_signed c_Run_led c_Run_taken c_Run_failed)
def m_Run_went_on_9 (c_Run_signed : Ct) (c_Run_led : Ct) (c_Run_taken : Ct) (c_Run_failed : Ct) : MS :=
  sSeq (sIf (mTest (mOp oIn (mVar 3) (mTup (aCons (mVal (.str ("sign" : Str))) (aCons (mVal (.str ("but" : Str))) (aNil)))))) (m_Run_went_on_0 c_Run_signed c_Run_led c_Run_taken c_Run_failed) (sNext))
  (m_Run_went_on_8 c_Run_signed c_Run_led c_Run_taken c_Run_failed)
def m_Run_went_on_10 (c_Run_signed : Ct) (c_Run_led : Ct) (c_Run_taken : Ct) (c_Run_failed : Ct) : MS :=
  sSeq (sAsg (mVar 1) (gStar 2 1 (gCs (gNm 3) (gCs (gNm 4) (gNl)))))
  (m_Run_went_on_9 c_Run_signed c_Run_led c_Run_taken c_Run_failed)
def m_Run_went_on (c_Run_signed : Ct) (c_Run_led : Ct) (c_Run_taken : Ct) (c_Run_failed : Ct) : MS := m_Run_went_on_10 c_Run_signed c_Run_led c_Run_taken c_Run_failed
def mi_Run_went_on (c_Run_signed : Ct) (c_Run_led : Ct) (c_Run_taken : Ct) (c_Run_failed : Ct) : MS :=
  sSeq (sAsg (mVar 1) (gStar 2 1 (gCs (gNm 3) (gCs (gNm 4) (gNl)))))
  (sSeq (sIf (mTest (mOp oIn (mVar 3) (mTup (aCons (mVal (.str ("sign" : Str))) (aCons (mVal (.str ("but" : Str))) (aNil)))))) (sRet (mMethG 2 "Run" "signed" c_Run_signed 3 (mVar 0) (aCons (mVar 3) (aCons (mOp oIxA (mVar 4) (mVal (.int 0))) (aNil))))) (sNext))
  (sSeq (sIf (mTest (mOp oNeU (mVar 4) (mLst (aNil)))) (sRet (mMethG 2 "Run" "led" c_Run_led 3 (mVar 0) (aCons (mVar 3) (aCons (mOp oIxA (mVar 4) (mVal (.int 0))) (aNil))))) (sNext))
  (sSeq (sIf (mTest (mOp oEq (mVar 3) (mVal (.str ("return" : Str))))) (sSeq (sTgs [.fld 2 0 "Run" "now" 2, .nm 5] (mMethG 2 "Run" "taken" c_Run_taken 2 (mVar 0) (aCons (mVal (.bool false)) (aNil))))
  (sRet (mVal (.bool true)))) (sNext))
  (sSeq (sIf (mTest (mOp oEq (mVar 3) (mVal (.str ("cut" : Str))))) (sExpr (mMethG 2 "Run" "taken" c_Run_taken 2 (mVar 0) (aCons (mVal (.bool true)) (aNil)))) (sNext))
  (sRet (mMethG 2 "Run" "failed" c_Run_failed 1 (mVar 0) (aNil)))))))
theorem me_Run_went_on (c_Run_signed : Ct) (c_Run_led : Ct) (c_Run_taken : Ct) (c_Run_failed : Ct) : mi_Run_went_on c_Run_signed c_Run_led c_Run_taken c_Run_failed = m_Run_went_on c_Run_signed c_Run_led c_Run_taken c_Run_failed := by rfl
theorem d_Run_went_on {P : Program} {w : World} {K : Fg} {mg : Str → Option Value} {base : Heap} {f : Addr} {cdv : Value} {A : Around} {outer : List Env} {s : Shared} {H : Hp} {E : XK} {k : Nat} {c_Run_signed c_Run_led c_Run_taken c_Run_failed : Ct} (g : Gb w K mg)
    (h_Run_signed_3_M : MethP P w K mg base k "Run" "signed" 3 c_Run_signed)
    (h_Run_led_3_M : MethP P w K mg base k "Run" "led" 3 c_Run_led)
    (h_Run_taken_2_M : MethP P w K mg base k "Run" "taken" 2 c_Run_taken)
    (h_Run_failed_1_M : MethP P w K mg base k "Run" "failed" 1 c_Run_failed)
    (hr : Rm k (A.deeper (envOfC "Run.went_on" (defScope s_Run_went_on) s.heap.objs.size f cdv))) (hgu : A.guards = some []) :
    DSs (cxOf CX0 P w K mg base N_Run_went_on "Run.went_on" (defScope s_Run_went_on) f cdv A outer s H E).nox (defBody s_Run_went_on) (m_Run_went_on c_Run_signed c_Run_led c_Run_taken c_Run_failed) :=
  have nd := sc_Run_went_on.nd
  have h : DSs (cxOf CX0 P w K mg base N_Run_went_on "Run.went_on" (defScope s_Run_went_on) f cdv A outer s H E).nox (defBody s_Run_went_on) (mi_Run_went_on c_Run_signed c_Run_led c_Run_taken c_Run_failed) :=
  (dss_cons (ds_asg (vs := [3, 4]) (dv 1) (dg_star (by rfl) (dgs_cons (dgn 3 nd) (dgs_star (dgn 4 nd) (dgs_nil)))))
  (dss_cons (ds_if (dtc (opd_in (u65 hr)) (dv 3) (de_tup (da_cons (de_str) (da_cons (de_str) (da_nil))))) (dss_one (ds_ret (de_mth h_Run_signed_3_M g.k_Run hr hgu (dv 0) (da_cons (dv 3) (da_cons (de_ixA (u1 hr) (dv 4) (de_int)) (da_nil)))))) (dss_nil))
  (dss_cons (ds_if (dtc (opd_neU (u64 hr)) (dv 4) (de_lst (da_nil))) (dss_one (ds_ret (de_mth h_Run_led_3_M g.k_Run hr hgu (dv 0) (da_cons (dv 3) (da_cons (de_ixA (u1 hr) (dv 4) (de_int)) (da_nil)))))) (dss_nil))
  (dss_cons (ds_if (dtc (opd_eq (u64 hr)) (dv 3) (de_str)) (dss_cons (ds_tgs (by rfl) (dtgs_cons (dtg_fld (g := 2) (i := 0) (j := 2) g.k_Run g.a_Run_now (by rfl) (by first | exact .inl rfl | exact .inr (.inl rfl) | exact .inr (.inr rfl))) (dtgs_cons (dtg_nm (i := 5) nd (by rfl) (by first | exact .inl rfl | exact .inr rfl)) (dtgs_nil))) (de_mth h_Run_taken_2_M g.k_Run hr hgu (dv 0) (da_cons (de_bl) (da_nil))))
  (dss_one (ds_ret (de_bl)))) (dss_nil))
  (dss_cons (ds_if (dtc (opd_eq (u64 hr)) (dv 3) (de_str)) (dss_one (ds_expr (de_mth h_Run_taken_2_M g.k_Run hr hgu (dv 0) (da_cons (de_bl) (da_nil))))) (dss_nil))
  (dss_one (ds_ret (de_mth0 h_Run_failed_1_M g.k_Run hr hgu (dv 0)))))))))
  me_Run_went_on c_Run_signed c_Run_led c_Run_taken c_Run_failed ▸ h
def mx_Run_went_on (c_Run_signed : Ct) (c_Run_led : Ct) (c_Run_taken : Ct) (c_Run_failed : Ct) (cx_Run_led : CtX) (cx_Run_taken : CtX) : MX :=
  xThen (sAsg (mVar 1) (gStar 2 1 (gCs (gNm 3) (gCs (gNm 4) (gNl))))) (xThen (sIf (mTest (mOp oIn (mVar 3) (mTup (aCons (mVal (.str ("sign" : Str))) (aCons (mVal (.str ("but" : Str))) (aNil)))))) (sRet (mMethG 2 "Run" "signed" c_Run_signed 3 (mVar 0) (aCons (mVar 3) (aCons (mOp oIxA (mVar 4) (mVal (.int 0))) (aNil))))) (sNext)) (xOr (xIf (mTest (mOp oNeU (mVar 4) (mLst (aNil)))) (mMethGX 2 "Run" "led" cx_Run_led 3 (mVar 0) (aCons (mVar 3) (aCons (mOp oIxA (mVar 4) (mVal (.int 0))) (aNil)))) (xNo)) (xThen (sIf (mTest (mOp oNeU (mVar 4) (mLst (aNil)))) (sRet (mMethG 2 "Run" "led" c_Run_led 3 (mVar 0) (aCons (mVar 3) (aCons (mOp oIxA (mVar 4) (mVal (.int 0))) (aNil))))) (sNext)) (xOr (xIf (mTest (mOp oEq (mVar 3) (mVal (.str ("return" : Str))))) (mMethGX 2 "Run" "taken" cx_Run_taken 2 (mVar 0) (aCons (mVal (.bool false)) (aNil))) (xNo)) (xThen (sIf (mTest (mOp oEq (mVar 3) (mVal (.str ("return" : Str))))) (sSeq (sTgs [.fld 2 0 "Run" "now" 2, .nm 5] (mMethG 2 "Run" "taken" c_Run_taken 2 (mVar 0) (aCons (mVal (.bool false)) (aNil))))
  (sRet (mVal (.bool true)))) (sNext)) (xIf (mTest (mOp oEq (mVar 3) (mVal (.str ("cut" : Str))))) (mMethGX 2 "Run" "taken" cx_Run_taken 2 (mVar 0) (aCons (mVal (.bool true)) (aNil))) (xNo)))))))
theorem x_Run_went_on {P : Program} {w : World} {K : Fg} {mg : Str → Option Value} {base : Heap} {f : Addr} {cdv : Value} {A : Around} {outer : List Env} {s : Shared} {H : Hp} {E : XK} {k : Nat} {c_Run_signed c_Run_led c_Run_taken c_Run_failed : Ct} {cx_Run_led cx_Run_taken : CtX} (g : Gb w K mg)
    (h_Run_signed_3_M : MethP P w K mg base k "Run" "signed" 3 c_Run_signed)
    (h_Run_led_3_M : MethP P w K mg base k "Run" "led" 3 c_Run_led)
    (h_Run_taken_2_M : MethP P w K mg base k "Run" "taken" 2 c_Run_taken)
    (h_Run_failed_1_M : MethP P w K mg base k "Run" "failed" 1 c_Run_failed)
    (xh_Run_led_3_M : MethX P w K mg base k "Run" "led" 3 cx_Run_led)
    (xh_Run_taken_2_M : MethX P w K mg base k "Run" "taken" 2 cx_Run_taken)
    (hr : Rm k (A.deeper (envOfC "Run.went_on" (defScope s_Run_went_on) s.heap.objs.size f cdv))) (hgu : A.guards = some []) (h2 : 2 ≤ k) :
    SsX (cxOf (L2.CX P w) P w K mg base N_Run_went_on "Run.went_on" (defScope s_Run_went_on) f cdv A outer s H E) (defBody s_Run_went_on) (mx_Run_went_on c_Run_signed c_Run_led c_Run_taken c_Run_failed cx_Run_led cx_Run_taken) :=
  have nd := sc_Run_went_on.nd
  ssx_then (ds_asg (vs := [3, 4]) (dv 1) (dg_star (by rfl) (dgs_cons (dgn 3 nd) (dgs_star (dgn 4 nd) (dgs_nil))))) (ssx_then (ds_if (dtc (opd_in (u65 hr)) (dv 3) (de_tup (da_cons (de_str) (da_cons (de_str) (da_nil))))) (dss_one (ds_ret (de_mth h_Run_signed_3_M g.k_Run hr hgu (dv 0) (da_cons (dv 3) (da_cons (de_ixA (u1 hr) (dv 4) (de_int)) (da_nil)))))) (dss_nil)) (ssx_or (ssx_here (sx_if (dtc (opd_neU (u64 hr)) (dv 4) (de_lst (da_nil))) (ssx_here (sx_ret (ex_mth xh_Run_led_3_M g.k_Run hr hgu (dv 0) (da_cons (dv 3) (da_cons (de_ixA (u1 hr) (dv 4) (de_int)) (da_nil)))))) (ssx_no))) (ssx_then (ds_if (dtc (opd_neU (u64 hr)) (dv 4) (de_lst (da_nil))) (dss_one (ds_ret (de_mth h_Run_led_3_M g.k_Run hr hgu (dv 0) (da_cons (dv 3) (da_cons (de_ixA (u1 hr) (dv 4) (de_int)) (da_nil)))))) (dss_nil)) (ssx_or (ssx_here (sx_if (dtc (opd_eq (u64 hr)) (dv 3) (de_str)) (ssx_here (sx_asg (ex_mth xh_Run_taken_2_M g.k_Run hr hgu (dv 0) (da_cons (de_bl) (da_nil))))) (ssx_no))) (ssx_then (ds_if (dtc (opd_eq (u64 hr)) (dv 3) (de_str)) (dss_cons (ds_tgs (by rfl) (dtgs_cons (dtg_fld (g := 2) (i := 0) (j := 2) g.k_Run g.a_Run_now (by rfl) (by first | exact .inl rfl | exact .inr (.inl rfl) | exact .inr (.inr rfl))) (dtgs_cons (dtg_nm (i := 5) nd (by rfl) (by first | exact .inl rfl | exact .inr rfl)) (dtgs_nil))) (de_mth h_Run_taken_2_M g.k_Run hr hgu (dv 0) (da_cons (de_bl) (da_nil))))
  (dss_one (ds_ret (de_bl)))) (dss_nil)) (ssx_here (sx_if (dtc (opd_eq (u64 hr)) (dv 3) (de_str)) (ssx_here (sx_expr (ex_mth xh_Run_taken_2_M g.k_Run hr hgu (dv 0) (da_cons (de_bl) (da_nil))))) (ssx_no))))))))
def N_run : List Str := ["codes", "text", "at", "mine", "number", "#"]
theorem sc_run : FnScope N_run ["codes", "text", "at"] (defScope s_run) := ⟨rfl, rfl, rfl, by decide +kernel, rfl, by decide +kernel, by decide +kernel⟩
def m_run_0 (c_Run___init__ : Ct) (c_Run_went_on : Ct) : MS :=
  sRet (mTup (aCons (mFld 5 "Run" "here" 3 (mVar 3)) (aCons (mFld 5 "Run" "gone" 5 (mVar 3)) (aNil))))
def m_run_1 (c_Run___init__ : Ct) (c_Run_went_on : Ct) : MS :=
  sRet (mTup (aCons (mVal .none) (aCons (mFld 5 "Run" "gone" 5 (mVar 3)) (aNil))))
def m_run_2 (c_Run___init__ : Ct) (c_Run_went_on : Ct) : MS :=
  sIf (mTest (mOp oGe (mFld 5 "Run" "now" 2 (mVar 3)) (mSel 0 (mDLen 0) (mCall cLen (aCons (mVar 0) (aNil)))))) (sNo) (sNext)
def m_run_3 (c_Run___init__ : Ct) (c_Run_went_on : Ct) : MS :=
  sSeq (sIf (bNot (mTru (mMethG 5 "Run" "went_on" c_Run_went_on 2 (mVar 3) (aCons (mOp oIxA (mVar 0) (mVar 4)) (aNil))))) (m_run_1 c_Run___init__ c_Run_went_on) (sNext))
  (m_run_2 c_Run___init__ c_Run_went_on)
def m_run_4 (c_Run___init__ : Ct) (c_Run_went_on : Ct) : MS :=
  sSeq (sIf (mTest (mOp oEq (mOp oIxA (mVar 0) (mVar 4)) (mTup (aCons (mVal (.str ("done" : Str))) (aNil))))) (m_run_0 c_Run___init__ c_Run_went_on) (sNext))
  (m_run_3 c_Run___init__ c_Run_went_on)
def m_run_5 (c_Run___init__ : Ct) (c_Run_went_on : Ct) : MS :=
  sSeq (sFldAdd 5 "Run" "gone" 5 (mVar 3) (mVal (.int 1)))
  (m_run_4 c_Run___init__ c_Run_went_on)
def m_run_6 (c_Run___init__ : Ct) (c_Run_went_on : Ct) : MS :=
  sSeq (sSet 4 (mFld 5 "Run" "now" 2 (mVar 3)))
  (m_run_5 c_Run___init__ c_Run_went_on)
def m_run_7 (c_Run___init__ : Ct) (c_Run_went_on : Ct) : MS :=
  sWhile (mTru (mVal (.bool true)))
  (m_run_6 c_Run___init__ c_Run_went_on)
def m_run_8 (c_Run___init__ : Ct) (c_Run_went_on : Ct) : MS :=
  sSeq (sIf (mTest (mOp oEqU (mVar 0) (mTup (aNil)))) (sNo) (sNext))
  (m_run_7 c_Run___init__ c_Run_went_on)
def m_run_9 (c_Run___init__ : Ct) (c_Run_went_on : Ct) : MS :=
  sSeq (sSet 3 (mMake 5 "Run" c_Run___init__ 4 (aCons (mVar 0) (aCons (mVar 1) (aCons (mVar 2) (aNil))))))
  (m_run_8 c_Run___init__ c_Run_went_on)
def m_run (c_Run___init__ : Ct) (c_Run_went_on : Ct) : MS := sGh 5 (m_run_9 c_Run___init__ c_Run_went_on)
def mi_run (c_Run___init__ : Ct) (c_Run_went_on : Ct) : MS :=
  sGh 5 (sSeq (sSet 3 (mMake 5 "Run" c_Run___init__ 4 (aCons (mVar 0) (aCons (mVar 1) (aCons (mVar 2) (aNil))))))
  (sSeq (sIf (mTest (mOp oEqU (mVar 0) (mTup (aNil)))) (sNo) (sNext))
  (sWhile (mTru (mVal (.bool true)))
  (sSeq (sSet 4 (mFld 5 "Run" "now" 2 (mVar 3)))
  (sSeq (sFldAdd 5 "Run" "gone" 5 (mVar 3) (mVal (.int 1)))
  (sSeq (sIf (mTest (mOp oEq (mOp oIxA (mVar 0) (mVar 4)) (mTup (aCons (mVal (.str ("done" : Str))) (aNil))))) (sRet (mTup (aCons (mFld 5 "Run" "here" 3 (mVar 3)) (aCons (mFld 5 "Run" "gone" 5 (mVar 3)) (aNil))))) (sNext))
  (sSeq (sIf (bNot (mTru (mMethG 5 "Run" "went_on" c_Run_went_on 2 (mVar 3) (aCons (mOp oIxA (mVar 0) (mVar 4)) (aNil))))) (sRet (mTup (aCons (mVal .none) (aCons (mFld 5 "Run" "gone" 5 (mVar 3)) (aNil))))) (sNext))
  (sIf (mTest (mOp oGe (mFld 5 "Run" "now" 2 (mVar 3)) (mSel 0 (mDLen 0) (mCall cLen (aCons (mVar 0) (aNil)))))) (sNo) (sNext)))))))))
theorem me_run (c_Run___init__ : Ct) (c_Run_went_on : Ct) : mi_run c_Run___init__ c_Run_went_on = m_run c_Run___init__ c_Run_went_on := by rfl
theorem d_run {P : Program} {w : World} {K : Fg} {mg : Str → Option Value} {base : Heap} {f : Addr} {cdv : Value} {A : Around} {outer : List Env} {s : Shared} {H : Hp} {E : XK} {k : Nat} {c_Run___init__ c_Run_went_on : Ct} (g : Gb w K mg)
    (h_Run___init___4_C : MakeP P w K mg base k "Run" 4 c_Run___init__)
    (h_Run_went_on_2_M : MethP P w K mg base k "Run" "went_on" 2 c_Run_went_on)
    (hr : Rm k (A.deeper (envOfC "run" (defScope s_run) s.heap.objs.size f cdv))) (hgu : A.guards = some []) :
    DSs (cxOf CX0 P w K mg base N_run "run" (defScope s_run) f cdv A outer s H E).nox (defBody s_run) (m_run c_Run___init__ c_Run_went_on) :=
  have nd := sc_run.nd
  have h : DSs (cxOf CX0 P w K mg base N_run "run" (defScope s_run) f cdv A outer s H E).nox (defBody s_run) (mi_run c_Run___init__ c_Run_went_on) :=
  (dss_gh (dss_cons (dst 3 nd (de_mk h_Run___init___4_C hr hgu (by rfl) (da_cons (dv 0) (da_cons (dv 1) (da_cons (dv 2) (da_nil))))))
  (dss_cons (ds_if (dtc (opd_eqU (u64 hr)) (dv 0) (de_tup (da_nil))) (dss_one (ds_no)) (dss_nil))
  (dss_one (ds_while PassesOwn.never (dt_of (de_bl))
  (dss_cons (dst 4 nd (de_fld (j := 2) g.k_Run g.a_Run_now (dv 3)))
  (dss_cons (ds_fldadd (j := 5) g.k_Run g.a_Run_gone (dv 3) (de_int))
  (dss_cons (ds_if (dtc (opd_eq (u64 hr)) (de_ixA (u1 hr) (dv 0) (dv 4)) (de_tup (da_cons (de_str) (da_nil)))) (dss_one (ds_ret (de_tup (da_cons (de_fld (j := 3) g.k_Run g.a_Run_here (dv 3)) (da_cons (de_fld (j := 5) g.k_Run g.a_Run_gone (dv 3)) (da_nil)))))) (dss_nil))
  (dss_cons (ds_if (dt_not (dt_of (de_mth h_Run_went_on_2_M g.k_Run hr hgu (dv 3) (da_cons (de_ixA (u1 hr) (dv 0) (dv 4)) (da_nil))))) (dss_one (ds_ret (de_tup (da_cons (de_non) (da_cons (de_fld (j := 5) g.k_Run g.a_Run_gone (dv 3)) (da_nil)))))) (dss_nil))
  (dss_one (ds_if (dtc opd_ge (de_fld (j := 2) g.k_Run g.a_Run_now (dv 3)) (de_sel (de_dlen (i := 0) (by rfl) g.b_len (by rfl) (by first | exact .inl rfl | exact .inr (.inl rfl) | exact .inr (.inr rfl))) (de_callB calld_len (by rfl) g.b_len (by rfl) (da_cons (dv 0) (da_nil))))) (dss_one (ds_no)) (dss_nil))))))))))))
  me_run c_Run___init__ c_Run_went_on ▸ h
def mx_run (c_Run___init__ : Ct) (c_Run_went_on : Ct) (cx_Run_went_on : CtX) : MX :=
  xGh 5 (xThen (sSet 3 (mMake 5 "Run" c_Run___init__ 4 (aCons (mVar 0) (aCons (mVar 1) (aCons (mVar 2) (aNil)))))) (xOr (xIf (mTest (mOp oEqU (mVar 0) (mTup (aNil)))) (xRaise1 "Astray" "number" (mVal (.int 0))) (xNo)) (xThen (sIf (mTest (mOp oEqU (mVar 0) (mTup (aNil)))) (sNo) (sNext)) (xWhile (mTru (mVal (.bool true))) (sSeq (sSet 4 (mFld 5 "Run" "now" 2 (mVar 3)))
  (sSeq (sFldAdd 5 "Run" "gone" 5 (mVar 3) (mVal (.int 1)))
  (sSeq (sIf (mTest (mOp oEq (mOp oIxA (mVar 0) (mVar 4)) (mTup (aCons (mVal (.str ("done" : Str))) (aNil))))) (sRet (mTup (aCons (mFld 5 "Run" "here" 3 (mVar 3)) (aCons (mFld 5 "Run" "gone" 5 (mVar 3)) (aNil))))) (sNext))
  (sSeq (sIf (bNot (mTru (mMethG 5 "Run" "went_on" c_Run_went_on 2 (mVar 3) (aCons (mOp oIxA (mVar 0) (mVar 4)) (aNil))))) (sRet (mTup (aCons (mVal .none) (aCons (mFld 5 "Run" "gone" 5 (mVar 3)) (aNil))))) (sNext))
  (sIf (mTest (mOp oGe (mFld 5 "Run" "now" 2 (mVar 3)) (mSel 0 (mDLen 0) (mCall cLen (aCons (mVar 0) (aNil)))))) (sNo) (sNext)))))) (xThen (sSet 4 (mFld 5 "Run" "now" 2 (mVar 3))) (xThen (sFldAdd 5 "Run" "gone" 5 (mVar 3) (mVal (.int 1))) (xThen (sIf (mTest (mOp oEq (mOp oIxA (mVar 0) (mVar 4)) (mTup (aCons (mVal (.str ("done" : Str))) (aNil))))) (sRet (mTup (aCons (mFld 5 "Run" "here" 3 (mVar 3)) (aCons (mFld 5 "Run" "gone" 5 (mVar 3)) (aNil))))) (sNext)) (xOr (mMethGX 5 "Run" "went_on" cx_Run_went_on 2 (mVar 3) (aCons (mOp oIxA (mVar 0) (mVar 4)) (aNil))) (xThen (sIf (bNot (mTru (mMethG 5 "Run" "went_on" c_Run_went_on 2 (mVar 3) (aCons (mOp oIxA (mVar 0) (mVar 4)) (aNil))))) (sRet (mTup (aCons (mVal .none) (aCons (mFld 5 "Run" "gone" 5 (mVar 3)) (aNil))))) (sNext)) (xIf (mTest (mOp oGe (mFld 5 "Run" "now" 2 (mVar 3)) (mSel 0 (mDLen 0) (mCall cLen (aCons (mVar 0) (aNil)))))) (xRaise1 "Astray" "number" (mVar 4)) (xNo)))))))))))
theorem x_run {P : Program} {w : World} {K : Fg} {mg : Str → Option Value} {base : Heap} {f : Addr} {cdv : Value} {A : Around} {outer : List Env} {s : Shared} {H : Hp} {E : XK} {k : Nat} {c_Run___init__ c_Run_went_on : Ct} {cx_Run_went_on : CtX} (g : Gb w K mg)
    (h_Run___init___4_C : MakeP P w K mg base k "Run" 4 c_Run___init__)
    (h_Run_went_on_2_M : MethP P w K mg base k "Run" "went_on" 2 c_Run_went_on)
    (xh_Run_went_on_2_M : MethX P w K mg base k "Run" "went_on" 2 cx_Run_went_on)
    (k_Astray : XMk1 P w K mg base "Astray" "number")
    (hr : Rm k (A.deeper (envOfC "run" (defScope s_run) s.heap.objs.size f cdv))) (hgu : A.guards = some []) (h2 : 2 ≤ k) :
    SsX (cxOf (L2.CX P w) P w K mg base N_run "run" (defScope s_run) f cdv A outer s H E) (defBody s_run) (mx_run c_Run___init__ c_Run_went_on cx_Run_went_on) :=
  have nd := sc_run.nd
  ssx_gh (ssx_then (dst 3 nd (de_mk h_Run___init___4_C hr hgu (by rfl) (da_cons (dv 0) (da_cons (dv 1) (da_cons (dv 2) (da_nil)))))) (ssx_or (ssx_here (sx_if (dtc (opd_eqU (u64 hr)) (dv 0) (de_tup (da_nil))) (ssx_here (sx_raise1 rfl k_Astray hr h2 (by rfl) (de_int))) (ssx_no))) (ssx_then (ds_if (dtc (opd_eqU (u64 hr)) (dv 0) (de_tup (da_nil))) (dss_one (ds_no)) (dss_nil)) (ssx_here (sx_while PassesOwn.leaving (dt_of (de_bl)) (dss_cons (dst 4 nd (de_fld (j := 2) g.k_Run g.a_Run_now (dv 3)))
  (dss_cons (ds_fldadd (j := 5) g.k_Run g.a_Run_gone (dv 3) (de_int))
  (dss_cons (ds_if (dtc (opd_eq (u64 hr)) (de_ixA (u1 hr) (dv 0) (dv 4)) (de_tup (da_cons (de_str) (da_nil)))) (dss_one (ds_ret (de_tup (da_cons (de_fld (j := 3) g.k_Run g.a_Run_here (dv 3)) (da_cons (de_fld (j := 5) g.k_Run g.a_Run_gone (dv 3)) (da_nil)))))) (dss_nil))
  (dss_cons (ds_if (dt_not (dt_of (de_mth h_Run_went_on_2_M g.k_Run hr hgu (dv 3) (da_cons (de_ixA (u1 hr) (dv 0) (dv 4)) (da_nil))))) (dss_one (ds_ret (de_tup (da_cons (de_non) (da_cons (de_fld (j := 5) g.k_Run g.a_Run_gone (dv 3)) (da_nil)))))) (dss_nil))
  (dss_one (ds_if (dtc opd_ge (de_fld (j := 2) g.k_Run g.a_Run_now (dv 3)) (de_sel (de_dlen (i := 0) (by rfl) g.b_len (by rfl) (by first | exact .inl rfl | exact .inr (.inl rfl) | exact .inr (.inr rfl))) (de_callB calld_len (by rfl) g.b_len (by rfl) (da_cons (dv 0) (da_nil))))) (dss_one (ds_no)) (dss_nil))))))) (ssx_then (dst 4 nd (de_fld (j := 2) g.k_Run g.a_Run_now (dv 3))) (ssx_then (ds_fldadd (j := 5) g.k_Run g.a_Run_gone (dv 3) (de_int)) (ssx_then (ds_if (dtc (opd_eq (u64 hr)) (de_ixA (u1 hr) (dv 0) (dv 4)) (de_tup (da_cons (de_str) (da_nil)))) (dss_one (ds_ret (de_tup (da_cons (de_fld (j := 3) g.k_Run g.a_Run_here (dv 3)) (da_cons (de_fld (j := 5) g.k_Run g.a_Run_gone (dv 3)) (da_nil)))))) (dss_nil)) (ssx_or (ssx_here (sx_ifN (ex_mth xh_Run_went_on_2_M g.k_Run hr hgu (dv 3) (da_cons (de_ixA (u1 hr) (dv 0) (dv 4)) (da_nil))))) (ssx_then (ds_if (dt_not (dt_of (de_mth h_Run_went_on_2_M g.k_Run hr hgu (dv 3) (da_cons (de_ixA (u1 hr) (dv 0) (dv 4)) (da_nil))))) (dss_one (ds_ret (de_tup (da_cons (de_non) (da_cons (de_fld (j := 5) g.k_Run g.a_Run_gone (dv 3)) (da_nil)))))) (dss_nil)) (ssx_here (sx_if (dtc opd_ge (de_fld (j := 2) g.k_Run g.a_Run_now (dv 3)) (de_sel (de_dlen (i := 0) (by rfl) g.b_len (by rfl) (by first | exact .inl rfl | exact .inr (.inl rfl) | exact .inr (.inr rfl))) (de_callB calld_len (by rfl) g.b_len (by rfl) (da_cons (dv 0) (da_nil))))) (ssx_here (sx_raise1 rfl k_Astray hr h2 (by rfl) (dv 4))) (ssx_no)))))))))))))
def N__law_pen : List Str := ["_law_script"]
theorem sc__law_pen : FnScope N__law_pen ["_law_script"] (defScope s__law_pen) := ⟨rfl, rfl, rfl, by decide +kernel, rfl, by decide +kernel, by decide +kernel⟩
def m__law_pen_0 : MS :=
  sRet (mLst (aCons (mSlS (mVar 0) (oNone) (oSome (mVal (.int 63)))) (aCons (mVal (.int 0)) (aCons (mVal (.int 0)) (aNil)))))
def m__law_pen : MS := m__law_pen_0
def mi__law_pen : MS :=
  sRet (mLst (aCons (mSlS (mVar 0) (oNone) (oSome (mVal (.int 63)))) (aCons (mVal (.int 0)) (aCons (mVal (.int 0)) (aNil)))))
theorem me__law_pen : mi__law_pen = m__law_pen := by rfl
theorem d__law_pen {P : Program} {w : World} {K : Fg} {mg : Str → Option Value} {base : Heap} {f : Addr} {cdv : Value} {A : Around} {outer : List Env} {s : Shared} {H : Hp} {E : XK} {k : Nat} (g : Gb w K mg)
    (hr : Rm k (A.deeper (envOfC "_law_pen" (defScope s__law_pen) s.heap.objs.size f cdv))) (hgu : A.guards = some []) :
    DSs (cxOf CX0 P w K mg base N__law_pen "_law_pen" (defScope s__law_pen) f cdv A outer s H E).nox (defBody s__law_pen) (m__law_pen) :=
  have nd := sc__law_pen.nd
  have h : DSs (cxOf CX0 P w K mg base N__law_pen "_law_pen" (defScope s__law_pen) f cdv A outer s H E).nox (defBody s__law_pen) (mi__law_pen) :=
  (dss_one (ds_ret (de_lst (da_cons (de_sliceS (dv 0) (do_none) (do_some (de_int))) (da_cons (de_int) (da_cons (de_int) (da_nil)))))))
  me__law_pen ▸ h
def N__law_take : List Str := ["_law_pen_here", "_law_many", "_law_digit", "_law_turn", "_law_cell", "_law_whole", "_law_mixed"]
theorem sc__law_take : FnScope N__law_take ["_law_pen_here", "_law_many"] (defScope s__law_take) := ⟨rfl, rfl, rfl, by decide +kernel, rfl, by decide +kernel, by decide +kernel⟩
def m__law_take_0 : MS :=
  sRet (mVar 2)
def m__law_take_1 : MS :=
  sSeq (sPut 0 (mOp oDiv (mOp oIxA (mVar 0) (mVal (.int 2))) (mVar 1)) (mVal (.int 2)))
  (m__law_take_0)
def m__law_take_2 : MS :=
  sSeq (sSet 2 (mOp oMod (mOp oIxA (mVar 0) (mVal (.int 2))) (mVar 1)))
  (m__law_take_1)
def m__law_take_3 : MS :=
  sSet 4 (mOp oIxA (mOp oIxA (mVar 0) (mVal (.int 0))) (mOp oMod (mVar 3) (mCall cLen (aCons (mOp oIxA (mVar 0) (mVal (.int 0))) (aNil)))))
def m__law_take_4 : MS :=
  sRet (mOp oMod (mVar 5) (mVar 1))
def m__law_take_5 : MS :=
  sSeq (sPut 0 (mOp oDiv (mVar 5) (mVar 1)) (mVal (.int 2)))
  (m__law_take_4)
def m__law_take_6 : MS :=
  sSeq (sSet 5 (mOp oAdd (mOp oMul (mVal (.int 2)) (mCall cAbs (aCons (mVar 4) (aNil)))) (mCall cInt (aCons (mOp oLt (mVar 4) (mVal (.int 0))) (aNil)))))
  (m__law_take_5)
def m__law_take_7 : MS :=
  sRet (mOp oMod (mOp oDiv (mVar 6) (mVal (.int 128))) (mVar 1))
def m__law_take_8 : MS :=
  sSeq (sSet 6 (mOp oMod (mOp oPow (mOp oAdd (mOp oMul (mVar 6) (mOp oAdd (mVar 3) (mVal (.int 50077)))) (mOp oMod (mVar 4) (mVal (.int 1021)))) (mVal (.int 2))) (mVal (.int 2147483563))))
  (m__law_take_7)
def m__law_take_9 : MS :=
  sSeq (sSet 6 (mOp oMod (mOp oPow (mOp oAdd (mOp oAdd (mOp oMod (mVar 4) (mVal (.int 2147483629))) (mOp oMul (mVal (.int 8069)) (mVar 3))) (mVal (.int 521))) (mVal (.int 3))) (mVal (.int 2147483587))))
  (m__law_take_8)
def m__law_take_10 : MS :=
  sSeq (sIf (bAnd (mTest (mOp oLt (mVar 3) (mCall cLen (aCons (mOp oIxA (mVar 0) (mVal (.int 0))) (aNil))))) (mTest (mOp oGe (mCall cAbs (aCons (mVar 4) (aNil))) (mOp oPow (mVal (.int 10)) (mVal (.int 18)))))) (m__law_take_6) (sNext))
  (m__law_take_9)
def m__law_take_11 : MS :=
  sSeq (sIf (mTest (mOp oGt (mCall cLen (aCons (mOp oIxA (mVar 0) (mVal (.int 0))) (aNil))) (mVal (.int 0)))) (m__law_take_3) (sNext))
  (m__law_take_10)
def m__law_take_12 : MS :=
  sSeq (sSet 4 (mVal (.int 83)))
  (m__law_take_11)
def m__law_take_13 : MS :=
  sSeq (sPut 0 (mOp oAdd (mVar 3) (mVal (.int 1))) (mVal (.int 1)))
  (m__law_take_12)
def m__law_take_14 : MS :=
  sSeq (sSet 3 (mOp oIxA (mVar 0) (mVal (.int 1))))
  (m__law_take_13)
def m__law_take_15 : MS :=
  sSeq (sIf (mTest (mOp oGt (mOp oIxA (mVar 0) (mVal (.int 2))) (mVal (.int 0)))) (m__law_take_2) (sNext))
  (m__law_take_14)
def m__law_take : MS := m__law_take_15
def mi__law_take : MS :=
  sSeq (sIf (mTest (mOp oGt (mOp oIxA (mVar 0) (mVal (.int 2))) (mVal (.int 0)))) (sSeq (sSet 2 (mOp oMod (mOp oIxA (mVar 0) (mVal (.int 2))) (mVar 1)))
  (sSeq (sPut 0 (mOp oDiv (mOp oIxA (mVar 0) (mVal (.int 2))) (mVar 1)) (mVal (.int 2)))
  (sRet (mVar 2)))) (sNext))
  (sSeq (sSet 3 (mOp oIxA (mVar 0) (mVal (.int 1))))
  (sSeq (sPut 0 (mOp oAdd (mVar 3) (mVal (.int 1))) (mVal (.int 1)))
  (sSeq (sSet 4 (mVal (.int 83)))
  (sSeq (sIf (mTest (mOp oGt (mCall cLen (aCons (mOp oIxA (mVar 0) (mVal (.int 0))) (aNil))) (mVal (.int 0)))) (sSet 4 (mOp oIxA (mOp oIxA (mVar 0) (mVal (.int 0))) (mOp oMod (mVar 3) (mCall cLen (aCons (mOp oIxA (mVar 0) (mVal (.int 0))) (aNil)))))) (sNext))
  (sSeq (sIf (bAnd (mTest (mOp oLt (mVar 3) (mCall cLen (aCons (mOp oIxA (mVar 0) (mVal (.int 0))) (aNil))))) (mTest (mOp oGe (mCall cAbs (aCons (mVar 4) (aNil))) (mOp oPow (mVal (.int 10)) (mVal (.int 18)))))) (sSeq (sSet 5 (mOp oAdd (mOp oMul (mVal (.int 2)) (mCall cAbs (aCons (mVar 4) (aNil)))) (mCall cInt (aCons (mOp oLt (mVar 4) (mVal (.int 0))) (aNil)))))
  (sSeq (sPut 0 (mOp oDiv (mVar 5) (mVar 1)) (mVal (.int 2)))
  (sRet (mOp oMod (mVar 5) (mVar 1))))) (sNext))
  (sSeq (sSet 6 (mOp oMod (mOp oPow (mOp oAdd (mOp oAdd (mOp oMod (mVar 4) (mVal (.int 2147483629))) (mOp oMul (mVal (.int 8069)) (mVar 3))) (mVal (.int 521))) (mVal (.int 3))) (mVal (.int 2147483587))))
  (sSeq (sSet 6 (mOp oMod (mOp oPow (mOp oAdd (mOp oMul (mVar 6) (mOp oAdd (mVar 3) (mVal (.int 50077)))) (mOp oMod (mVar 4) (mVal (.int 1021)))) (mVal (.int 2))) (mVal (.int 2147483563))))
  (sRet (mOp oMod (mOp oDiv (mVar 6) (mVal (.int 128))) (mVar 1))))))))))
theorem me__law_take : mi__law_take = m__law_take := by rfl
theorem d__law_take {P : Program} {w : World} {K : Fg} {mg : Str → Option Value} {base : Heap} {f : Addr} {cdv : Value} {A : Around} {outer : List Env} {s : Shared} {H : Hp} {E : XK} {k : Nat} (g : Gb w K mg)
    (hr : Rm k (A.deeper (envOfC "_law_take" (defScope s__law_take) s.heap.objs.size f cdv))) (hgu : A.guards = some []) :
    DSs (cxOf CX0 P w K mg base N__law_take "_law_take" (defScope s__law_take) f cdv A outer s H E).nox (defBody s__law_take) (m__law_take) :=
  have nd := sc__law_take.nd
  have h : DSs (cxOf CX0 P w K mg base N__law_take "_law_take" (defScope s__law_take) f cdv A outer s H E).nox (defBody s__law_take) (mi__law_take) :=
  (dss_cons (ds_if (dtc opd_gt (de_ixA (u1 hr) (dv 0) (de_int)) (de_int)) (dss_cons (dst 2 nd (de_op opd_mod (de_ixA (u1 hr) (dv 0) (de_int)) (dv 1)))
  (dss_cons (ds_put (i := 0) (by rfl) (by first | exact .inl rfl | exact .inr (.inl rfl) | exact .inr (.inr rfl)) (de_op opd_div (de_ixA (u1 hr) (dv 0) (de_int)) (dv 1)) (de_int))
  (dss_one (ds_ret (dv 2))))) (dss_nil))
  (dss_cons (dst 3 nd (de_ixA (u1 hr) (dv 0) (de_int)))
  (dss_cons (ds_put (i := 0) (by rfl) (by first | exact .inl rfl | exact .inr (.inl rfl) | exact .inr (.inr rfl)) (de_op opd_add (dv 3) (de_int)) (de_int))
  (dss_cons (dst 4 nd (de_int))
  (dss_cons (ds_if (dtc opd_gt (de_callB calld_len (by rfl) g.b_len (by rfl) (da_cons (de_ixA (u1 hr) (dv 0) (de_int)) (da_nil))) (de_int)) (dss_one (dst 4 nd (de_ixA (u1 hr) (de_ixA (u1 hr) (dv 0) (de_int)) (de_op opd_mod (dv 3) (de_callB calld_len (by rfl) g.b_len (by rfl) (da_cons (de_ixA (u1 hr) (dv 0) (de_int)) (da_nil))))))) (dss_nil))
  (dss_cons (ds_if (dt_w (dw_and (dtc opd_lt (dv 3) (de_callB calld_len (by rfl) g.b_len (by rfl) (da_cons (de_ixA (u1 hr) (dv 0) (de_int)) (da_nil)))) (dw_and1 (dtc opd_ge (de_callB calld_abs (by rfl) g.b_abs (by rfl) (da_cons (dv 4) (da_nil))) (de_op opd_pow (de_int) (de_int)))))) (dss_cons (dst 5 nd (de_op opd_add (de_op opd_mul (de_int) (de_callB calld_abs (by rfl) g.b_abs (by rfl) (da_cons (dv 4) (da_nil)))) (de_callTy calld_int (by rfl) g.b_int (by rfl) (da_cons (dec opd_lt (dv 4) (de_int)) (da_nil)))))
  (dss_cons (ds_put (i := 0) (by rfl) (by first | exact .inl rfl | exact .inr (.inl rfl) | exact .inr (.inr rfl)) (de_op opd_div (dv 5) (dv 1)) (de_int))
  (dss_one (ds_ret (de_op opd_mod (dv 5) (dv 1)))))) (dss_nil))
  (dss_cons (dst 6 nd (de_op opd_mod (de_op opd_pow (de_op opd_add (de_op opd_add (de_op opd_mod (dv 4) (de_int)) (de_op opd_mul (de_int) (dv 3))) (de_int)) (de_int)) (de_int)))
  (dss_cons (dst 6 nd (de_op opd_mod (de_op opd_pow (de_op opd_add (de_op opd_mul (dv 6) (de_op opd_add (dv 3) (de_int))) (de_op opd_mod (dv 4) (de_int))) (de_int)) (de_int)))
  (dss_one (ds_ret (de_op opd_mod (de_op opd_div (dv 6) (de_int)) (dv 1))))))))))))
  me__law_take ▸ h
def N__law_failed : List Str := ["_law_mill", "#", "_law_top"]
theorem sc__law_failed : FnScope N__law_failed ["_law_mill"] (defScope s__law_failed) := ⟨rfl, rfl, rfl, by decide +kernel, rfl, by decide +kernel, by decide +kernel⟩
def m__law_failed_0 : MS :=
  sRet (mVal (.bool true))
def m__law_failed_1 : MS :=
  sSeq (sTgs [.put 1 0 "now", .put 1 0 "at"] (mVar 2))
  (m__law_failed_0)
def m__law_failed_2 : MS :=
  sIf (mTest (mOp oEq (mCall cLen (aCons (mVar 2) (aNil))) (mVal (.int 2)))) (m__law_failed_1) (sNext)
def m__law_failed_3 : MS :=
  sSeq (sSet 2 (mPopG 1 (mIxN 1 (mVar 0) (mVal (.str ("pile" : Str))))))
  (m__law_failed_2)
def m__law_failed_4 : MS :=
  sRet (mVal (.bool false))
def m__law_failed_5 : MS :=
  sSeq (sWhile (mTest (mNeG 1 (mIxN 1 (mVar 0) (mVal (.str ("pile" : Str)))) (mLst (aNil))))
  (m__law_failed_3))
  (m__law_failed_4)
def m__law_failed : MS := m__law_failed_5
def mi__law_failed : MS :=
  sSeq (sWhile (mTest (mNeG 1 (mIxN 1 (mVar 0) (mVal (.str ("pile" : Str)))) (mLst (aNil))))
  (sSeq (sSet 2 (mPopG 1 (mIxN 1 (mVar 0) (mVal (.str ("pile" : Str))))))
  (sIf (mTest (mOp oEq (mCall cLen (aCons (mVar 2) (aNil))) (mVal (.int 2)))) (sSeq (sTgs [.put 1 0 "now", .put 1 0 "at"] (mVar 2))
  (sRet (mVal (.bool true)))) (sNext))))
  (sRet (mVal (.bool false)))
theorem me__law_failed : mi__law_failed = m__law_failed := by rfl
theorem d__law_failed {P : Program} {w : World} {K : Fg} {mg : Str → Option Value} {base : Heap} {f : Addr} {cdv : Value} {A : Around} {outer : List Env} {s : Shared} {H : Hp} {E : XK} {k : Nat} (g : Gb w K mg)
    (hr : Rm k (A.deeper (envOfC "_law_failed" (defScope s__law_failed) s.heap.objs.size f cdv))) (hgu : A.guards = some []) :
    DSs (cxOf CX0 P w K mg base N__law_failed "_law_failed" (defScope s__law_failed) f cdv A outer s H E).nox (defBody s__law_failed) (m__law_failed) :=
  have nd := sc__law_failed.nd
  have h : DSs (cxOf CX0 P w K mg base N__law_failed "_law_failed" (defScope s__law_failed) f cdv A outer s H E).nox (defBody s__law_failed) (mi__law_failed) :=
  (dss_cons (ds_while PassesOwn.never (dt_neG (u64 hr) (de_ixN (u1 hr) (dv 0) (de_str)) (de_lst (da_nil)))
  (dss_cons (dst 2 nd (de_popG (de_ixN (u1 hr) (dv 0) (de_str))))
  (dss_one (ds_if (dtc (opd_eq (u64 hr)) (de_callB calld_len (by rfl) g.b_len (by rfl) (da_cons (dv 2) (da_nil))) (de_int)) (dss_cons (ds_tgs (by rfl) (dtgs_cons (dtg_put (g := 1) (i := 0) (u1 hr) (by rfl) (by first | exact .inl rfl | exact .inr (.inl rfl) | exact .inr (.inr rfl))) (dtgs_cons (dtg_put (g := 1) (i := 0) (u1 hr) (by rfl) (by first | exact .inl rfl | exact .inr (.inl rfl) | exact .inr (.inr rfl))) (dtgs_nil))) (dv 2))
  (dss_one (ds_ret (de_bl)))) (dss_nil)))))
  (dss_one (ds_ret (de_bl))))
  me__law_failed ▸ h
def N__law_gone_on : List Str := ["_law_mill", "_law_code_here", "#", "_law_word", "_law_wants", "_law_there", "_law_top"]
theorem sc__law_gone_on : FnScope N__law_gone_on ["_law_mill", "_law_code_here"] (defScope s__law_gone_on) := ⟨rfl, rfl, rfl, by decide +kernel, rfl, by decide +kernel, by decide +kernel⟩
def m__law_gone_on_0 (c__law_failed : Ct) : MS :=
  sRet (mVal (.str ("on" : Str)))
def m__law_gone_on_1 (c__law_failed : Ct) : MS :=
  sSeq (sPutN 2 (mOp oAdd (mIxN 2 (mVar 0) (mVal (.str ("now" : Str)))) (mVal (.int 1))) (mVar 0) (mVal (.str ("now" : Str))))
  (m__law_gone_on_0 c__law_failed)
def m__law_gone_on_2 (c__law_failed : Ct) : MS :=
  sSeq (sPutN 2 (mOp oAdd (mIxN 2 (mVar 0) (mVal (.str ("at" : Str)))) (mVal (.int 1))) (mVar 0) (mVal (.str ("at" : Str))))
  (m__law_gone_on_1 c__law_failed)
def m__law_gone_on_3 (c__law_failed : Ct) : MS :=
  sIf (bAnd (mTest (mOp oNe (mVar 5) (mVal (.str ("" : Str))))) (mTest (mOp oEq (mOp oInX (mVar 5) (mOp oIxA (mVar 1) (mVal (.int 1)))) (mOp oEq (mVar 3) (mVal (.str ("sign" : Str))))))) (m__law_gone_on_2 c__law_failed) (sNext)
def m__law_gone_on_4 (c__law_failed : Ct) : MS :=
  sSeq (sSet 5 (mSl (mIxN 2 (mVar 0) (mVal (.str ("text" : Str)))) (oSome (mIxN 2 (mVar 0) (mVal (.str ("at" : Str))))) (oSome (mOp oAdd (mIxN 2 (mVar 0) (mVal (.str ("at" : Str)))) (mVal (.int 1))))))
  (m__law_gone_on_3 c__law_failed)
def m__law_gone_on_5 (c__law_failed : Ct) : MS :=
  sPutN 2 (mOp oAdd (mIxN 2 (mVar 0) (mVal (.str ("now" : Str)))) (mVal (.int 1))) (mVar 0) (mVal (.str ("now" : Str)))
def m__law_gone_on_6 (c__law_failed : Ct) : MS :=
  sSeq (sExpr (mAppG 2 (mIxN 2 (mVar 0) (mVal (.str ("pile" : Str)))) (mTup (aCons (mOp oIxA (mVar 1) (mVal (.int 1))) (aCons (mIxN 2 (mVar 0) (mVal (.str ("at" : Str)))) (aNil))))))
  (m__law_gone_on_5 c__law_failed)
def m__law_gone_on_7 (c__law_failed : Ct) : MS :=
  sPutN 2 (mOp oIxA (mVar 1) (mVal (.int 1))) (mVar 0) (mVal (.str ("now" : Str)))
def m__law_gone_on_8 (c__law_failed : Ct) : MS :=
  sSeq (sExpr (mAppG 2 (mIxN 2 (mVar 0) (mVal (.str ("pile" : Str)))) (mTup (aCons (mOp oAdd (mIxN 2 (mVar 0) (mVal (.str ("now" : Str)))) (mVal (.int 1))) (aNil)))))
  (m__law_gone_on_7 c__law_failed)
def m__law_gone_on_9 (c__law_failed : Ct) : MS :=
  sPutN 2 (mOp oIxA (mVar 6) (mVal (.int 0))) (mVar 0) (mVal (.str ("now" : Str)))
def m__law_gone_on_10 (c__law_failed : Ct) : MS :=
  sPutN 2 (mOp oIxA (mVar 1) (mVal (.int 1))) (mVar 0) (mVal (.str ("now" : Str)))
def m__law_gone_on_11 (c__law_failed : Ct) : MS :=
  sPutN 2 (mOp oIxA (mVar 6) (mVal (.int 1))) (mVar 0) (mVal (.str ("at" : Str)))
def m__law_gone_on_12 (c__law_failed : Ct) : MS :=
  sIf (mTest (mOp oEq (mVar 3) (mVal (.str ("back" : Str))))) (m__law_gone_on_11 c__law_failed) (sNext)
def m__law_gone_on_13 (c__law_failed : Ct) : MS :=
  sSeq (sIf (mTest (mOp oIn (mVar 3) (mTup (aCons (mVal (.str ("commit" : Str))) (aCons (mVal (.str ("back" : Str))) (aNil)))))) (m__law_gone_on_10 c__law_failed) (sNext))
  (m__law_gone_on_12 c__law_failed)
def m__law_gone_on_14 (c__law_failed : Ct) : MS :=
  sSeq (sIf (mTest (mOp oEq (mVar 3) (mVal (.str ("return" : Str))))) (m__law_gone_on_9 c__law_failed) (sNext))
  (m__law_gone_on_13 c__law_failed)
def m__law_gone_on_15 (c__law_failed : Ct) : MS :=
  sSeq (sSet 6 (mPopG 2 (mIxN 2 (mVar 0) (mVal (.str ("pile" : Str))))))
  (m__law_gone_on_14 c__law_failed)
def m__law_gone_on_16 (c__law_failed : Ct) : MS :=
  sIf (mTest (mOp oGt (mVar 4) (mVal (.int 0)))) (m__law_gone_on_15 c__law_failed) (sNext)
def m__law_gone_on_17 (c__law_failed : Ct) : MS :=
  sIf (mTest (mOp oEq (mVar 3) (mVal (.str ("call" : Str))))) (m__law_gone_on_8 c__law_failed) (m__law_gone_on_16 c__law_failed)
def m__law_gone_on_18 (c__law_failed : Ct) : MS :=
  sRet (mOp oIxA (mLst (aCons (mVal (.str ("none" : Str))) (aCons (mVal (.str ("on" : Str))) (aNil)))) (mCall cInt (aCons (mFnG 2 c__law_failed 1 (aCons (mVar 0) (aNil))) (aNil))))
def m__law_gone_on_19 (c__law_failed : Ct) : MS :=
  sRet (mVal (.str ("on" : Str)))
def m__law_gone_on_20 (c__law_failed : Ct) : MS :=
  sSeq (sIf (mTest (mOp oIn (mVar 3) (mTup (aCons (mVal (.str ("sign" : Str))) (aCons (mVal (.str ("but" : Str))) (aCons (mVal (.str ("fail" : Str))) (aCons (mVal (.str ("cut" : Str))) (aNil)))))))) (m__law_gone_on_18 c__law_failed) (sNext))
  (m__law_gone_on_19 c__law_failed)
def m__law_gone_on_21 (c__law_failed : Ct) : MS :=
  sSeq (sIf (mTest (mOp oEq (mVar 3) (mVal (.str ("split" : Str))))) (m__law_gone_on_6 c__law_failed) (m__law_gone_on_17 c__law_failed))
  (m__law_gone_on_20 c__law_failed)
def m__law_gone_on_22 (c__law_failed : Ct) : MS :=
  sSeq (sIf (mTest (mOp oIn (mVar 3) (mTup (aCons (mVal (.str ("sign" : Str))) (aCons (mVal (.str ("but" : Str))) (aNil)))))) (m__law_gone_on_4 c__law_failed) (sNext))
  (m__law_gone_on_21 c__law_failed)
def m__law_gone_on_23 (c__law_failed : Ct) : MS :=
  sSeq (sIf (bAnd (mTest (mOp oGt (mVar 4) (mVal (.int 0)))) (bOr (mTest (mEqG 2 (mIxN 2 (mVar 0) (mVal (.str ("pile" : Str)))) (mLst (aNil)))) (mTest (mOp oNe (mCall cLen (aCons (mIxN 2 (mIxN 2 (mVar 0) (mVal (.str ("pile" : Str)))) (mNeg (mVal (.int 1)))) (aNil))) (mVar 4))))) (sRet (mVal (.str ("astray" : Str)))) (sNext))
  (m__law_gone_on_22 c__law_failed)
def m__law_gone_on_24 (c__law_failed : Ct) : MS :=
  sSeq (sSet 4 (mGetC [("commit", 2), ("back", 2), ("cut", 2), ("return", 1)] 0 (mVar 3)))
  (m__law_gone_on_23 c__law_failed)
def m__law_gone_on_25 (c__law_failed : Ct) : MS :=
  sSeq (sSet 3 (mOp oIxA (mVar 1) (mVal (.int 0))))
  (m__law_gone_on_24 c__law_failed)
def m__law_gone_on (c__law_failed : Ct) : MS := m__law_gone_on_25 c__law_failed
def mi__law_gone_on (c__law_failed : Ct) : MS :=
  sSeq (sSet 3 (mOp oIxA (mVar 1) (mVal (.int 0))))
  (sSeq (sSet 4 (mGetC [("commit", 2), ("back", 2), ("cut", 2), ("return", 1)] 0 (mVar 3)))
  (sSeq (sIf (bAnd (mTest (mOp oGt (mVar 4) (mVal (.int 0)))) (bOr (mTest (mEqG 2 (mIxN 2 (mVar 0) (mVal (.str ("pile" : Str)))) (mLst (aNil)))) (mTest (mOp oNe (mCall cLen (aCons (mIxN 2 (mIxN 2 (mVar 0) (mVal (.str ("pile" : Str)))) (mNeg (mVal (.int 1)))) (aNil))) (mVar 4))))) (sRet (mVal (.str ("astray" : Str)))) (sNext))
  (sSeq (sIf (mTest (mOp oIn (mVar 3) (mTup (aCons (mVal (.str ("sign" : Str))) (aCons (mVal (.str ("but" : Str))) (aNil)))))) (sSeq (sSet 5 (mSl (mIxN 2 (mVar 0) (mVal (.str ("text" : Str)))) (oSome (mIxN 2 (mVar 0) (mVal (.str ("at" : Str))))) (oSome (mOp oAdd (mIxN 2 (mVar 0) (mVal (.str ("at" : Str)))) (mVal (.int 1))))))
  (sIf (bAnd (mTest (mOp oNe (mVar 5) (mVal (.str ("" : Str))))) (mTest (mOp oEq (mOp oInX (mVar 5) (mOp oIxA (mVar 1) (mVal (.int 1)))) (mOp oEq (mVar 3) (mVal (.str ("sign" : Str))))))) (sSeq (sPutN 2 (mOp oAdd (mIxN 2 (mVar 0) (mVal (.str ("at" : Str)))) (mVal (.int 1))) (mVar 0) (mVal (.str ("at" : Str))))
  (sSeq (sPutN 2 (mOp oAdd (mIxN 2 (mVar 0) (mVal (.str ("now" : Str)))) (mVal (.int 1))) (mVar 0) (mVal (.str ("now" : Str))))
  (sRet (mVal (.str ("on" : Str)))))) (sNext))) (sNext))
  (sSeq (sIf (mTest (mOp oEq (mVar 3) (mVal (.str ("split" : Str))))) (sSeq (sExpr (mAppG 2 (mIxN 2 (mVar 0) (mVal (.str ("pile" : Str)))) (mTup (aCons (mOp oIxA (mVar 1) (mVal (.int 1))) (aCons (mIxN 2 (mVar 0) (mVal (.str ("at" : Str)))) (aNil))))))
  (sPutN 2 (mOp oAdd (mIxN 2 (mVar 0) (mVal (.str ("now" : Str)))) (mVal (.int 1))) (mVar 0) (mVal (.str ("now" : Str))))) (sIf (mTest (mOp oEq (mVar 3) (mVal (.str ("call" : Str))))) (sSeq (sExpr (mAppG 2 (mIxN 2 (mVar 0) (mVal (.str ("pile" : Str)))) (mTup (aCons (mOp oAdd (mIxN 2 (mVar 0) (mVal (.str ("now" : Str)))) (mVal (.int 1))) (aNil)))))
  (sPutN 2 (mOp oIxA (mVar 1) (mVal (.int 1))) (mVar 0) (mVal (.str ("now" : Str))))) (sIf (mTest (mOp oGt (mVar 4) (mVal (.int 0)))) (sSeq (sSet 6 (mPopG 2 (mIxN 2 (mVar 0) (mVal (.str ("pile" : Str))))))
  (sSeq (sIf (mTest (mOp oEq (mVar 3) (mVal (.str ("return" : Str))))) (sPutN 2 (mOp oIxA (mVar 6) (mVal (.int 0))) (mVar 0) (mVal (.str ("now" : Str)))) (sNext))
  (sSeq (sIf (mTest (mOp oIn (mVar 3) (mTup (aCons (mVal (.str ("commit" : Str))) (aCons (mVal (.str ("back" : Str))) (aNil)))))) (sPutN 2 (mOp oIxA (mVar 1) (mVal (.int 1))) (mVar 0) (mVal (.str ("now" : Str)))) (sNext))
  (sIf (mTest (mOp oEq (mVar 3) (mVal (.str ("back" : Str))))) (sPutN 2 (mOp oIxA (mVar 6) (mVal (.int 1))) (mVar 0) (mVal (.str ("at" : Str)))) (sNext))))) (sNext))))
  (sSeq (sIf (mTest (mOp oIn (mVar 3) (mTup (aCons (mVal (.str ("sign" : Str))) (aCons (mVal (.str ("but" : Str))) (aCons (mVal (.str ("fail" : Str))) (aCons (mVal (.str ("cut" : Str))) (aNil)))))))) (sRet (mOp oIxA (mLst (aCons (mVal (.str ("none" : Str))) (aCons (mVal (.str ("on" : Str))) (aNil)))) (mCall cInt (aCons (mFnG 2 c__law_failed 1 (aCons (mVar 0) (aNil))) (aNil))))) (sNext))
  (sRet (mVal (.str ("on" : Str)))))))))
theorem me__law_gone_on (c__law_failed : Ct) : mi__law_gone_on c__law_failed = m__law_gone_on c__law_failed := by rfl
theorem d__law_gone_on {P : Program} {w : World} {K : Fg} {mg : Str → Option Value} {base : Heap} {f : Addr} {cdv : Value} {A : Around} {outer : List Env} {s : Shared} {H : Hp} {E : XK} {k : Nat} {c__law_failed : Ct} (g : Gb w K mg)
    (h__law_failed_1_O : DefP P w K mg base k "_law_failed" 1 c__law_failed)
    (hr : Rm k (A.deeper (envOfC "_law_gone_on" (defScope s__law_gone_on) s.heap.objs.size f cdv))) (hgu : A.guards = some []) :
    DSs (cxOf CX0 P w K mg base N__law_gone_on "_law_gone_on" (defScope s__law_gone_on) f cdv A outer s H E).nox (defBody s__law_gone_on) (m__law_gone_on c__law_failed) :=
  have nd := sc__law_gone_on.nd
  have h : DSs (cxOf CX0 P w K mg base N__law_gone_on "_law_gone_on" (defScope s__law_gone_on) f cdv A outer s H E).nox (defBody s__law_gone_on) (mi__law_gone_on c__law_failed) :=
  (dss_cons (dst 3 nd (de_ixA (u1 hr) (dv 1) (de_int)))
  (dss_cons (dst 4 nd (de_getC (u1 hr) (.cons (.cons (.cons (.cons (.nil))))) (dv 3) ⟨by rfl, by rfl, by rfl, by rfl⟩))
  (dss_cons (ds_if (dt_w (dw_and (dtc opd_gt (dv 4) (de_int)) (dw_and1 (dt_w (dw_or (dt_eqG (u64 hr) (de_ixN (u1 hr) (dv 0) (de_str)) (de_lst (da_nil))) (dw_or1 (dtc (opd_ne (u64 hr)) (de_callB calld_len (by rfl) g.b_len (by rfl) (da_cons (de_ixN (u1 hr) (de_ixN (u1 hr) (dv 0) (de_str)) (de_neg (de_int))) (da_nil))) (dv 4)))))))) (dss_one (ds_ret (de_str))) (dss_nil))
  (dss_cons (ds_if (dtc (opd_in (u65 hr)) (dv 3) (de_tup (da_cons (de_str) (da_cons (de_str) (da_nil))))) (dss_cons (dst 5 nd (de_slice (de_ixN (u1 hr) (dv 0) (de_str)) (do_some (de_ixN (u1 hr) (dv 0) (de_str))) (do_some (de_op opd_add (de_ixN (u1 hr) (dv 0) (de_str)) (de_int)))))
  (dss_one (ds_if (dt_w (dw_and (dtc (opd_ne (u64 hr)) (dv 5) (de_str)) (dw_and1 (dtc (opd_eq (u64 hr)) (dec (opd_inX (u65 hr)) (dv 5) (de_ixA (u1 hr) (dv 1) (de_int))) (dec (opd_eq (u64 hr)) (dv 3) (de_str)))))) (dss_cons (ds_putN (u1 hr) (de_op opd_add (de_ixN (u1 hr) (dv 0) (de_str)) (de_int)) (dv 0) (de_str))
  (dss_cons (ds_putN (u1 hr) (de_op opd_add (de_ixN (u1 hr) (dv 0) (de_str)) (de_int)) (dv 0) (de_str))
  (dss_one (ds_ret (de_str))))) (dss_nil)))) (dss_nil))
  (dss_cons (ds_if (dtc (opd_eq (u64 hr)) (dv 3) (de_str)) (dss_cons (ds_expr (de_appG (de_ixN (u1 hr) (dv 0) (de_str)) (de_tup (da_cons (de_ixA (u1 hr) (dv 1) (de_int)) (da_cons (de_ixN (u1 hr) (dv 0) (de_str)) (da_nil))))))
  (dss_one (ds_putN (u1 hr) (de_op opd_add (de_ixN (u1 hr) (dv 0) (de_str)) (de_int)) (dv 0) (de_str)))) (dss_one (ds_if (dtc (opd_eq (u64 hr)) (dv 3) (de_str)) (dss_cons (ds_expr (de_appG (de_ixN (u1 hr) (dv 0) (de_str)) (de_tup (da_cons (de_op opd_add (de_ixN (u1 hr) (dv 0) (de_str)) (de_int)) (da_nil)))))
  (dss_one (ds_putN (u1 hr) (de_ixA (u1 hr) (dv 1) (de_int)) (dv 0) (de_str)))) (dss_one (ds_if (dtc opd_gt (dv 4) (de_int)) (dss_cons (dst 6 nd (de_popG (de_ixN (u1 hr) (dv 0) (de_str))))
  (dss_cons (ds_if (dtc (opd_eq (u64 hr)) (dv 3) (de_str)) (dss_one (ds_putN (u1 hr) (de_ixA (u1 hr) (dv 6) (de_int)) (dv 0) (de_str))) (dss_nil))
  (dss_cons (ds_if (dtc (opd_in (u65 hr)) (dv 3) (de_tup (da_cons (de_str) (da_cons (de_str) (da_nil))))) (dss_one (ds_putN (u1 hr) (de_ixA (u1 hr) (dv 1) (de_int)) (dv 0) (de_str))) (dss_nil))
  (dss_one (ds_if (dtc (opd_eq (u64 hr)) (dv 3) (de_str)) (dss_one (ds_putN (u1 hr) (de_ixA (u1 hr) (dv 6) (de_int)) (dv 0) (de_str))) (dss_nil)))))) (dss_nil))))))
  (dss_cons (ds_if (dtc (opd_in (u65 hr)) (dv 3) (de_tup (da_cons (de_str) (da_cons (de_str) (da_cons (de_str) (da_cons (de_str) (da_nil))))))) (dss_one (ds_ret (de_ixA (u1 hr) (de_lst (da_cons (de_str) (da_cons (de_str) (da_nil)))) (de_callTy calld_int (by rfl) g.b_int (by rfl) (da_cons (de_fnG h__law_failed_1_O hr hgu (by rfl) (da_cons (dv 0) (da_nil))) (da_nil)))))) (dss_nil))
  (dss_one (ds_ret (de_str)))))))))
  me__law_gone_on c__law_failed ▸ h
def N__law_run : List Str := ["_law_some", "_law_writing", "_law_spot", "_law_most", "_law_mill", "_law_gone", "_law_number", "_law_word", "#"]
theorem sc__law_run : FnScope N__law_run ["_law_some", "_law_writing", "_law_spot", "_law_most"] (defScope s__law_run) := ⟨rfl, rfl, rfl, by decide +kernel, rfl, by decide +kernel, by decide +kernel⟩
def m__law_run_0 (c__law_gone_on : Ct) : MS :=
  sRet (mTup (aCons (mIxN 8 (mVar 4) (mVal (.str ("at" : Str)))) (aCons (mOp oAdd (mVar 5) (mVal (.int 1))) (aNil))))
def m__law_run_1 (c__law_gone_on : Ct) : MS :=
  sRet (mTup (aCons (mVal .none) (aCons (mOp oAdd (mVar 5) (mVal (.int 1))) (aNil))))
def m__law_run_2 (c__law_gone_on : Ct) : MS :=
  sRet (mTup (aCons (mVal (.str ("astray" : Str))) (aCons (mVar 6) (aNil))))
def m__law_run_3 (c__law_gone_on : Ct) : MS :=
  sIf (bOr (mTest (mOp oEq (mVar 7) (mVal (.str ("astray" : Str))))) (mTest (mOp oGe (mIxN 8 (mVar 4) (mVal (.str ("now" : Str)))) (mSel 0 (mDLen 0) (mCall cLen (aCons (mVar 0) (aNil))))))) (m__law_run_2 c__law_gone_on) (sNext)
def m__law_run_4 (c__law_gone_on : Ct) : MS :=
  sSeq (sIf (mTest (mOp oEq (mVar 7) (mVal (.str ("none" : Str))))) (m__law_run_1 c__law_gone_on) (sNext))
  (m__law_run_3 c__law_gone_on)
def m__law_run_5 (c__law_gone_on : Ct) : MS :=
  sSeq (sSet 7 (mFnG 8 c__law_gone_on 2 (aCons (mVar 4) (aCons (mOp oIxA (mVar 0) (mVar 6)) (aNil)))))
  (m__law_run_4 c__law_gone_on)
def m__law_run_6 (c__law_gone_on : Ct) : MS :=
  sSeq (sIf (mTest (mOp oEq (mOp oIxA (mOp oIxA (mVar 0) (mVar 6)) (mVal (.int 0))) (mVal (.str ("done" : Str))))) (m__law_run_0 c__law_gone_on) (sNext))
  (m__law_run_5 c__law_gone_on)
def m__law_run_7 (c__law_gone_on : Ct) : MS :=
  sSeq (sSet 6 (mIxN 8 (mVar 4) (mVal (.str ("now" : Str)))))
  (m__law_run_6 c__law_gone_on)
def m__law_run_8 (c__law_gone_on : Ct) : MS :=
  sRet (mVal .none)
def m__law_run_9 (c__law_gone_on : Ct) : MS :=
  sSeq (sFor (iRange1 (mVar 3)) (gNm 5)
  (m__law_run_7 c__law_gone_on))
  (m__law_run_8 c__law_gone_on)
def m__law_run_10 (c__law_gone_on : Ct) : MS :=
  sSeq (sSet 4 (mDispN 8 [(mVal (.str ("now" : Str)), mVal (.int 0)), (mVal (.str ("at" : Str)), mVar 2), (mVal (.str ("pile" : Str)), mNod 8 (mLst (aNil))), (mVal (.str ("text" : Str)), mVar 1)]))
  (m__law_run_9 c__law_gone_on)
def m__law_run (c__law_gone_on : Ct) : MS := sGh 8 (m__law_run_10 c__law_gone_on)
def mi__law_run (c__law_gone_on : Ct) : MS :=
  sGh 8 (sSeq (sSet 4 (mDispN 8 [(mVal (.str ("now" : Str)), mVal (.int 0)), (mVal (.str ("at" : Str)), mVar 2), (mVal (.str ("pile" : Str)), mNod 8 (mLst (aNil))), (mVal (.str ("text" : Str)), mVar 1)]))
  (sSeq (sFor (iRange1 (mVar 3)) (gNm 5)
  (sSeq (sSet 6 (mIxN 8 (mVar 4) (mVal (.str ("now" : Str)))))
  (sSeq (sIf (mTest (mOp oEq (mOp oIxA (mOp oIxA (mVar 0) (mVar 6)) (mVal (.int 0))) (mVal (.str ("done" : Str))))) (sRet (mTup (aCons (mIxN 8 (mVar 4) (mVal (.str ("at" : Str)))) (aCons (mOp oAdd (mVar 5) (mVal (.int 1))) (aNil))))) (sNext))
  (sSeq (sSet 7 (mFnG 8 c__law_gone_on 2 (aCons (mVar 4) (aCons (mOp oIxA (mVar 0) (mVar 6)) (aNil)))))
  (sSeq (sIf (mTest (mOp oEq (mVar 7) (mVal (.str ("none" : Str))))) (sRet (mTup (aCons (mVal .none) (aCons (mOp oAdd (mVar 5) (mVal (.int 1))) (aNil))))) (sNext))
  (sIf (bOr (mTest (mOp oEq (mVar 7) (mVal (.str ("astray" : Str))))) (mTest (mOp oGe (mIxN 8 (mVar 4) (mVal (.str ("now" : Str)))) (mSel 0 (mDLen 0) (mCall cLen (aCons (mVar 0) (aNil))))))) (sRet (mTup (aCons (mVal (.str ("astray" : Str))) (aCons (mVar 6) (aNil))))) (sNext)))))))
  (sRet (mVal .none))))
theorem me__law_run (c__law_gone_on : Ct) : mi__law_run c__law_gone_on = m__law_run c__law_gone_on := by rfl
theorem d__law_run {P : Program} {w : World} {K : Fg} {mg : Str → Option Value} {base : Heap} {f : Addr} {cdv : Value} {A : Around} {outer : List Env} {s : Shared} {H : Hp} {E : XK} {k : Nat} {c__law_gone_on : Ct} (g : Gb w K mg)
    (h__law_gone_on_2_O : DefP P w K mg base k "_law_gone_on" 2 c__law_gone_on)
    (hr : Rm k (A.deeper (envOfC "_law_run" (defScope s__law_run) s.heap.objs.size f cdv))) (hgu : A.guards = some []) :
    DSs (cxOf CX0 P w K mg base N__law_run "_law_run" (defScope s__law_run) f cdv A outer s H E).nox (defBody s__law_run) (m__law_run c__law_gone_on) :=
  have nd := sc__law_run.nd
  have h : DSs (cxOf CX0 P w K mg base N__law_run "_law_run" (defScope s__law_run) f cdv A outer s H E).nox (defBody s__law_run) (mi__law_run c__law_gone_on) :=
  (dss_gh (dss_cons (dst 4 nd (de_dispN (.cons (de_str) (de_int) (.cons (de_str) (dv 2) (.cons (de_str) (de_nod (de_lst (da_nil))) (.cons (de_str) (dv 1) (.nil)))))))
  (dss_cons (ds_for (vs := [5]) PassesOwn.never (by rfl) (di_range1 (by rfl) g.b_range (dv 3)) (dgn 5 nd)
  (dss_cons (dst 6 nd (de_ixN (u1 hr) (dv 4) (de_str)))
  (dss_cons (ds_if (dtc (opd_eq (u64 hr)) (de_ixA (u1 hr) (de_ixA (u1 hr) (dv 0) (dv 6)) (de_int)) (de_str)) (dss_one (ds_ret (de_tup (da_cons (de_ixN (u1 hr) (dv 4) (de_str)) (da_cons (de_op opd_add (dv 5) (de_int)) (da_nil)))))) (dss_nil))
  (dss_cons (dst 7 nd (de_fnG h__law_gone_on_2_O hr hgu (by rfl) (da_cons (dv 4) (da_cons (de_ixA (u1 hr) (dv 0) (dv 6)) (da_nil)))))
  (dss_cons (ds_if (dtc (opd_eq (u64 hr)) (dv 7) (de_str)) (dss_one (ds_ret (de_tup (da_cons (de_non) (da_cons (de_op opd_add (dv 5) (de_int)) (da_nil)))))) (dss_nil))
  (dss_one (ds_if (dt_w (dw_or (dtc (opd_eq (u64 hr)) (dv 7) (de_str)) (dw_or1 (dtc opd_ge (de_ixN (u1 hr) (dv 4) (de_str)) (de_sel (de_dlen (i := 0) (by rfl) g.b_len (by rfl) (by first | exact .inl rfl | exact .inr (.inl rfl) | exact .inr (.inr rfl))) (de_callB calld_len (by rfl) g.b_len (by rfl) (da_cons (dv 0) (da_nil)))))))) (dss_one (ds_ret (de_tup (da_cons (de_str) (da_cons (dv 6) (da_nil)))))) (dss_nil))))))))
  (dss_one (ds_ret (de_non))))))
  me__law_run c__law_gone_on ▸ h
def N__law_heard_run : List Str := ["_law_asking", "_law_caught", "_law_found", "error"]
theorem sc__law_heard_run : FnScope N__law_heard_run ["_law_asking"] (defScope s__law_heard_run) := ⟨rfl, rfl, rfl, by decide +kernel, rfl, by decide +kernel, by decide +kernel⟩
def m__law_heard_run_0 (L : Lam) (out : LO) : MS :=
  sRet (mTup (aCons (mVal (.str ("odd" : Str))) (aCons (mVal .none) (aNil))))
def m__law_heard_run_1 (L : Lam) (out : LO) : MS :=
  sRet (mTup (aCons (mVal (.str ("odd" : Str))) (aCons (mVal .none) (aNil))))
def m__law_heard_run_2 (L : Lam) (out : LO) : MS :=
  sRet (mTup (aCons (mVal (.str ("astray" : Str))) (aCons (mXfd "number" ["Astray"] (mVar 1)) (aNil))))
def m__law_heard_run_3 (L : Lam) (out : LO) : MS :=
  sSeq (sIf (mTru (mIsX [("Astray", false)] (mVar 1))) (m__law_heard_run_1 L out) (sNext))
  (m__law_heard_run_2 L out)
def m__law_heard_run_4 (L : Lam) (out : LO) : MS :=
  sSeq (sIf (bOr (bNot (mTru (mIsX [("Astray", true)] (mVar 1)))) (bNot (mTru (mIsX [("Astray", true)] (mVar 1))))) (m__law_heard_run_0 L out) (sNext))
  (m__law_heard_run_3 L out)
def m__law_heard_run_5 (L : Lam) (out : LO) : MS :=
  sSeq (sIf (mTest (mIsNo false (mVar 1))) (sRet (mVar 2)) (sNext))
  (m__law_heard_run_4 L out)
def m__law_heard_run_6 (L : Lam) (out : LO) : MS :=
  sSeq (sTry 3 1 ["Astray"] (sSet 2 (mHole 0 L out)) (xHole 0 L out))
  (m__law_heard_run_5 L out)
def m__law_heard_run_7 (L : Lam) (out : LO) : MS :=
  sSeq (sSet 2 (mVal .none))
  (m__law_heard_run_6 L out)
def m__law_heard_run_8 (L : Lam) (out : LO) : MS :=
  sSeq (sSet 1 (mVal .none))
  (m__law_heard_run_7 L out)
def m__law_heard_run (L : Lam) (out : LO) : MS := m__law_heard_run_8 L out
def mi__law_heard_run (L : Lam) (out : LO) : MS :=
  sSeq (sSet 1 (mVal .none))
  (sSeq (sSet 2 (mVal .none))
  (sSeq (sTry 3 1 ["Astray"] (sSet 2 (mHole 0 L out)) (xHole 0 L out))
  (sSeq (sIf (mTest (mIsNo false (mVar 1))) (sRet (mVar 2)) (sNext))
  (sSeq (sIf (bOr (bNot (mTru (mIsX [("Astray", true)] (mVar 1)))) (bNot (mTru (mIsX [("Astray", true)] (mVar 1))))) (sRet (mTup (aCons (mVal (.str ("odd" : Str))) (aCons (mVal .none) (aNil))))) (sNext))
  (sSeq (sIf (mTru (mIsX [("Astray", false)] (mVar 1))) (sRet (mTup (aCons (mVal (.str ("odd" : Str))) (aCons (mVal .none) (aNil))))) (sNext))
  (sRet (mTup (aCons (mVal (.str ("astray" : Str))) (aCons (mXfd "number" ["Astray"] (mVar 1)) (aNil))))))))))
theorem me__law_heard_run (L : Lam) (out : LO) : mi__law_heard_run L out = m__law_heard_run L out := by rfl
theorem d__law_heard_run {P : Program} {w : World} {K : Fg} {mg : Str → Option Value} {base : Heap} {f : Addr} {cdv : Value} {A : Around} {outer : List Env} {s : Shared} {H : Hp} {E : XK} {k : Nat} {L : Lam} {out : LO} (g : Gb w K mg)
    (act : ActD (cxOf CX0 P w K mg base N__law_heard_run "_law_heard_run" (defScope s__law_heard_run) f cdv A outer s H E) L out)
    (hr : Rm k (A.deeper (envOfC "_law_heard_run" (defScope s__law_heard_run) s.heap.objs.size f cdv))) (hgu : A.guards = some []) :
    DSs (cxOf CX0 P w K mg base N__law_heard_run "_law_heard_run" (defScope s__law_heard_run) f cdv A outer s H E).nox (defBody s__law_heard_run) (m__law_heard_run L out) :=
  have nd := sc__law_heard_run.nd
  have h : DSs (cxOf CX0 P w K mg base N__law_heard_run "_law_heard_run" (defScope s__law_heard_run) f cdv A outer s H E).nox (defBody s__law_heard_run) (mi__law_heard_run L out) :=
  (dss_cons (dst 1 nd (de_non))
  (dss_cons (dst 2 nd (de_non))
  (dss_cons (ds_try rfl rfl rfl nd (by rfl) (by rfl) (test_one (by rfl) g.n_ReadError) (all_cons (XF.cat_ok g.x0) (all_nil)) (fun pn xe => dss_one (dst 2 nd (de_hole (i := 0) act (by rfl) (by first | exact .inl rfl | exact .inr (.inl rfl) | exact .inr (.inr rfl))))) (fun pn xe => ssx_here (sx_set (i := 2) nd (ex_hole (i := 0) act (by rfl) (by first | exact .inl rfl | exact .inr (.inl rfl) | exact .inr (.inr rfl))))) (fun a pn => pss_one (ps_set (X := Cx.suite _ a pn) (i := 1) nd (by rfl) (by first | exact .inl rfl | exact .inr rfl) (pe_var (i := 3) (by rfl) (by first | exact .inl rfl | exact .inr (.inl rfl) | exact .inr (.inr rfl))))))
  (dss_cons (ds_if (dt_isNo (dv 1)) (dss_one (ds_ret (dv 2))) (dss_nil))
  (dss_cons (ds_if (dt_w (dw_or (dt_not (dt_of (de_isX1 (y := "Astray") (all_cons ⟨XF.is1_ok g.x1, XF.kin_ok g.x2⟩ (all_nil)) (by rfl) g.b_isinstance (by rfl) (by rfl) g.n_Astray (dv 1)))) (dw_or1 (dt_not (dt_of (de_isXB (T := "ValueError") (all_cons ⟨XF.isB_ok g.x3, XF.kin_ok g.x2⟩ (all_nil)) (by rfl) g.b_isinstance (by rfl) (by rfl) g.b_ValueError (by rfl) (dv 1))))))) (dss_one (ds_ret (de_tup (da_cons (de_str) (da_cons (de_non) (da_nil)))))) (dss_nil))
  (dss_cons (ds_if (dt_of (de_isXT (ys := ["Bound", "Endless", "NoBook", "NoText", "NotPlain"]) (all_cons ⟨XF.isA_ok g.x4, XF.kin_ok g.x2⟩ (all_nil)) (by rfl) g.b_isinstance (by rfl) (.cons (by rfl) g.n_Bound (by decide) (by rfl) (.cons (by rfl) g.n_Endless (by decide) (by rfl) (.cons (by rfl) g.n_NoBook (by decide) (by rfl) (.cons (by rfl) g.n_NoText (by decide) (by rfl) (.cons (by rfl) g.n_NotPlain (by decide) (by rfl) (.nil)))))) (by decide) (dv 1))) (dss_one (ds_ret (de_tup (da_cons (de_str) (da_cons (de_non) (da_nil)))))) (dss_nil))
  (dss_one (ds_ret (de_tup (da_cons (de_str) (da_cons (de_xfd (all_cons (XF.fld_ok g.x5) (all_nil)) (dv 1)) (da_nil))))))))))))
  me__law_heard_run L out ▸ h
def N__law_code : List Str := ["_law_pen_here", "_law_many", "_law_word", "_law_some"]
theorem sc__law_code : FnScope N__law_code ["_law_pen_here", "_law_many"] (defScope s__law_code) := ⟨rfl, rfl, rfl, by decide +kernel, rfl, by decide +kernel, by decide +kernel⟩
def m__law_code_0 (c__law_take : Ct) : MS :=
  sRet (mTup (aCons (mVar 2) (aCons (mOp oIxA (mLst (aCons (mVal (.str ("a" : Str))) (aCons (mVal (.str ("b" : Str))) (aCons (mVal (.str ("ab" : Str))) (aCons (mVal (.str ("0" : Str))) (aCons (mVal (.str ("ab" : Str))) (aNil))))))) (mFnK c__law_take (pick [(false, 0), (false, 1)]) 2 0 (aCons (mVar 0) (aCons (mVal (.int 5)) (aNil))) (aNil))) (aNil))))
def m__law_code_1 (c__law_take : Ct) : MS :=
  sRet (mTup (aCons (mVar 2) (aCons (mOp oIxA (mVar 3) (mOp oIxA (mLst (aCons (mVal (.int 0)) (aCons (mVal (.int 1)) (aCons (mVal (.int 2)) (aCons (mVal (.int 0)) (aCons (mVal (.int 1)) (aCons (mVal (.int 2)) (aCons (mVal (.int 3)) (aCons (mVal (.int 4)) (aCons (mVal (.int 5)) (aCons (mVal (.int 6)) (aCons (mVal (.int 7)) (aNil))))))))))))) (mFnK c__law_take (pick [(false, 0), (false, 1)]) 2 0 (aCons (mVar 0) (aCons (mVal (.int 11)) (aNil))) (aNil)))) (aNil))))
def m__law_code_2 (c__law_take : Ct) : MS :=
  sSeq (sSet 3 (mLst (aCons (mFnK c__law_take (pick [(false, 0), (false, 1)]) 2 0 (aCons (mVar 0) (aCons (mVar 1) (aNil))) (aNil)) (aCons (mFnK c__law_take (pick [(false, 0), (false, 1)]) 2 0 (aCons (mVar 0) (aCons (mVar 1) (aNil))) (aNil)) (aCons (mFnK c__law_take (pick [(false, 0), (false, 1)]) 2 0 (aCons (mVar 0) (aCons (mVar 1) (aNil))) (aNil)) (aCons (mVar 1) (aCons (mVal (.int 0)) (aCons (mOp oSub (mVar 1) (mVal (.int 1))) (aCons (mVal (.int 9999)) (aCons (mOp oAdd (mVar 1) (mVal (.int 1))) (aNil)))))))))))
  (m__law_code_1 c__law_take)
def m__law_code_3 (c__law_take : Ct) : MS :=
  sRet (mTup (aCons (mVar 2) (aNil)))
def m__law_code_4 (c__law_take : Ct) : MS :=
  sSeq (sIf (mTest (mOp oIn (mVar 2) (mTup (aCons (mVal (.str ("split" : Str))) (aCons (mVal (.str ("commit" : Str))) (aCons (mVal (.str ("back" : Str))) (aCons (mVal (.str ("call" : Str))) (aNil)))))))) (m__law_code_2 c__law_take) (sNext))
  (m__law_code_3 c__law_take)
def m__law_code_5 (c__law_take : Ct) : MS :=
  sSeq (sIf (mTest (mOp oIn (mVar 2) (mTup (aCons (mVal (.str ("sign" : Str))) (aCons (mVal (.str ("but" : Str))) (aNil)))))) (m__law_code_0 c__law_take) (sNext))
  (m__law_code_4 c__law_take)
def m__law_code_6 (c__law_take : Ct) : MS :=
  sSeq (sSet 2 (mOp oIxA (mVar 2) (mFnK c__law_take (pick [(false, 0), (false, 1)]) 2 0 (aCons (mVar 0) (aCons (mVal (.int 12)) (aNil))) (aNil))))
  (m__law_code_5 c__law_take)
def m__law_code_7 (c__law_take : Ct) : MS :=
  sSeq (sSet 2 (mLst (aCons (mVal (.str ("sign" : Str))) (aCons (mVal (.str ("sign" : Str))) (aCons (mVal (.str ("but" : Str))) (aCons (mVal (.str ("fail" : Str))) (aCons (mVal (.str ("split" : Str))) (aCons (mVal (.str ("split" : Str))) (aCons (mVal (.str ("commit" : Str))) (aCons (mVal (.str ("back" : Str))) (aCons (mVal (.str ("call" : Str))) (aCons (mVal (.str ("return" : Str))) (aCons (mVal (.str ("cut" : Str))) (aCons (mVal (.str ("done" : Str))) (aNil)))))))))))))))
  (m__law_code_6 c__law_take)
def m__law_code (c__law_take : Ct) : MS := m__law_code_7 c__law_take
def mi__law_code (c__law_take : Ct) : MS :=
  sSeq (sSet 2 (mLst (aCons (mVal (.str ("sign" : Str))) (aCons (mVal (.str ("sign" : Str))) (aCons (mVal (.str ("but" : Str))) (aCons (mVal (.str ("fail" : Str))) (aCons (mVal (.str ("split" : Str))) (aCons (mVal (.str ("split" : Str))) (aCons (mVal (.str ("commit" : Str))) (aCons (mVal (.str ("back" : Str))) (aCons (mVal (.str ("call" : Str))) (aCons (mVal (.str ("return" : Str))) (aCons (mVal (.str ("cut" : Str))) (aCons (mVal (.str ("done" : Str))) (aNil)))))))))))))))
  (sSeq (sSet 2 (mOp oIxA (mVar 2) (mFnK c__law_take (pick [(false, 0), (false, 1)]) 2 0 (aCons (mVar 0) (aCons (mVal (.int 12)) (aNil))) (aNil))))
  (sSeq (sIf (mTest (mOp oIn (mVar 2) (mTup (aCons (mVal (.str ("sign" : Str))) (aCons (mVal (.str ("but" : Str))) (aNil)))))) (sRet (mTup (aCons (mVar 2) (aCons (mOp oIxA (mLst (aCons (mVal (.str ("a" : Str))) (aCons (mVal (.str ("b" : Str))) (aCons (mVal (.str ("ab" : Str))) (aCons (mVal (.str ("0" : Str))) (aCons (mVal (.str ("ab" : Str))) (aNil))))))) (mFnK c__law_take (pick [(false, 0), (false, 1)]) 2 0 (aCons (mVar 0) (aCons (mVal (.int 5)) (aNil))) (aNil))) (aNil))))) (sNext))
  (sSeq (sIf (mTest (mOp oIn (mVar 2) (mTup (aCons (mVal (.str ("split" : Str))) (aCons (mVal (.str ("commit" : Str))) (aCons (mVal (.str ("back" : Str))) (aCons (mVal (.str ("call" : Str))) (aNil)))))))) (sSeq (sSet 3 (mLst (aCons (mFnK c__law_take (pick [(false, 0), (false, 1)]) 2 0 (aCons (mVar 0) (aCons (mVar 1) (aNil))) (aNil)) (aCons (mFnK c__law_take (pick [(false, 0), (false, 1)]) 2 0 (aCons (mVar 0) (aCons (mVar 1) (aNil))) (aNil)) (aCons (mFnK c__law_take (pick [(false, 0), (false, 1)]) 2 0 (aCons (mVar 0) (aCons (mVar 1) (aNil))) (aNil)) (aCons (mVar 1) (aCons (mVal (.int 0)) (aCons (mOp oSub (mVar 1) (mVal (.int 1))) (aCons (mVal (.int 9999)) (aCons (mOp oAdd (mVar 1) (mVal (.int 1))) (aNil)))))))))))
  (sRet (mTup (aCons (mVar 2) (aCons (mOp oIxA (mVar 3) (mOp oIxA (mLst (aCons (mVal (.int 0)) (aCons (mVal (.int 1)) (aCons (mVal (.int 2)) (aCons (mVal (.int 0)) (aCons (mVal (.int 1)) (aCons (mVal (.int 2)) (aCons (mVal (.int 3)) (aCons (mVal (.int 4)) (aCons (mVal (.int 5)) (aCons (mVal (.int 6)) (aCons (mVal (.int 7)) (aNil))))))))))))) (mFnK c__law_take (pick [(false, 0), (false, 1)]) 2 0 (aCons (mVar 0) (aCons (mVal (.int 11)) (aNil))) (aNil)))) (aNil)))))) (sNext))
  (sRet (mTup (aCons (mVar 2) (aNil)))))))
theorem me__law_code (c__law_take : Ct) : mi__law_code c__law_take = m__law_code c__law_take := by rfl
theorem d__law_code {P : Program} {w : World} {K : Fg} {mg : Str → Option Value} {base : Heap} {f : Addr} {cdv : Value} {A : Around} {outer : List Env} {s : Shared} {H : Hp} {E : XK} {k : Nat} {c__law_take : Ct} (g : Gb w K mg)
    (h__law_take_2 : Def P w K mg base k "_law_take" 2 [] (pick [(false, 0), (false, 1)]) c__law_take)
    (hr : Rm k (A.deeper (envOfC "_law_code" (defScope s__law_code) s.heap.objs.size f cdv))) (hgu : A.guards = some []) :
    DSs (cxOf CX0 P w K mg base N__law_code "_law_code" (defScope s__law_code) f cdv A outer s H E).nox (defBody s__law_code) (m__law_code c__law_take) :=
  have nd := sc__law_code.nd
  have h : DSs (cxOf CX0 P w K mg base N__law_code "_law_code" (defScope s__law_code) f cdv A outer s H E).nox (defBody s__law_code) (mi__law_code c__law_take) :=
  (dss_cons (dst 2 nd (de_lst (da_cons (de_str) (da_cons (de_str) (da_cons (de_str) (da_cons (de_str) (da_cons (de_str) (da_cons (de_str) (da_cons (de_str) (da_cons (de_str) (da_cons (de_str) (da_cons (de_str) (da_cons (de_str) (da_cons (de_str) (da_nil)))))))))))))))
  (dss_cons (dst 2 nd (de_ixA (u1 hr) (dv 2) (de_def h__law_take_2 hr hgu (by rfl) (da_cons (dv 0) (da_cons (de_int) (da_nil))))))
  (dss_cons (ds_if (dtc (opd_in (u65 hr)) (dv 2) (de_tup (da_cons (de_str) (da_cons (de_str) (da_nil))))) (dss_one (ds_ret (de_tup (da_cons (dv 2) (da_cons (de_ixA (u1 hr) (de_lst (da_cons (de_str) (da_cons (de_str) (da_cons (de_str) (da_cons (de_str) (da_cons (de_str) (da_nil))))))) (de_def h__law_take_2 hr hgu (by rfl) (da_cons (dv 0) (da_cons (de_int) (da_nil))))) (da_nil)))))) (dss_nil))
  (dss_cons (ds_if (dtc (opd_in (u65 hr)) (dv 2) (de_tup (da_cons (de_str) (da_cons (de_str) (da_cons (de_str) (da_cons (de_str) (da_nil))))))) (dss_cons (dst 3 nd (de_lst (da_cons (de_def h__law_take_2 hr hgu (by rfl) (da_cons (dv 0) (da_cons (dv 1) (da_nil)))) (da_cons (de_def h__law_take_2 hr hgu (by rfl) (da_cons (dv 0) (da_cons (dv 1) (da_nil)))) (da_cons (de_def h__law_take_2 hr hgu (by rfl) (da_cons (dv 0) (da_cons (dv 1) (da_nil)))) (da_cons (dv 1) (da_cons (de_int) (da_cons (de_op opd_sub (dv 1) (de_int)) (da_cons (de_int) (da_cons (de_op opd_add (dv 1) (de_int)) (da_nil)))))))))))
  (dss_one (ds_ret (de_tup (da_cons (dv 2) (da_cons (de_ixA (u1 hr) (dv 3) (de_ixA (u1 hr) (de_lst (da_cons (de_int) (da_cons (de_int) (da_cons (de_int) (da_cons (de_int) (da_cons (de_int) (da_cons (de_int) (da_cons (de_int) (da_cons (de_int) (da_cons (de_int) (da_cons (de_int) (da_cons (de_int) (da_nil))))))))))))) (de_def h__law_take_2 hr hgu (by rfl) (da_cons (dv 0) (da_cons (de_int) (da_nil)))))) (da_nil))))))) (dss_nil))
  (dss_one (ds_ret (de_tup (da_cons (dv 2) (da_nil)))))))))
  me__law_code c__law_take ▸ h
def N__law_codes : List Str := ["_law_pen_here", "_law_many", "_law_found", "_law_k", "_law_code_here"]
theorem sc__law_codes : FnScope N__law_codes ["_law_pen_here"] (defScope s__law_codes) := ⟨rfl, rfl, rfl, by decide +kernel, rfl, by decide +kernel, by decide +kernel⟩
def m__law_codes_0 (c__law_take : Ct) (c__law_code : Ct) : MS :=
  sSet 4 (mTup (aCons (mOp oIxA (mLst (aCons (mVal (.str ("split" : Str))) (aCons (mVal (.str ("call" : Str))) (aNil)))) (mFnK c__law_take (pick [(false, 0), (false, 1)]) 2 0 (aCons (mVar 0) (aCons (mVal (.int 2)) (aNil))) (aNil))) (aCons (mOp oAdd (mOp oAdd (mVar 3) (mVal (.int 1))) (mFnK c__law_take (pick [(false, 0), (false, 1)]) 2 0 (aCons (mVar 0) (aCons (mCall cMaxA (aCons (mVal (.int 1)) (aCons (mOp oSub (mOp oSub (mVar 1) (mVar 3)) (mVal (.int 1))) (aNil)))) (aNil))) (aNil))) (aNil))))
def m__law_codes_1 (c__law_take : Ct) (c__law_code : Ct) : MS :=
  sExpr (mMeth 2 tAppend (aCons (mVar 4) (aNil)))
def m__law_codes_2 (c__law_take : Ct) (c__law_code : Ct) : MS :=
  sSeq (sIf (bAnd (mTest (mOp oLt (mVar 3) (mVal (.int 3)))) (mTest (mOp oEq (mFnK c__law_take (pick [(false, 0), (false, 1)]) 2 0 (aCons (mVar 0) (aCons (mVal (.int 2)) (aNil))) (aNil)) (mVal (.int 0))))) (m__law_codes_0 c__law_take c__law_code) (sNext))
  (m__law_codes_1 c__law_take c__law_code)
def m__law_codes_3 (c__law_take : Ct) (c__law_code : Ct) : MS :=
  sSeq (sSet 4 (mFnK c__law_code (pick [(false, 0), (false, 1)]) 2 0 (aCons (mVar 0) (aCons (mVar 1) (aNil))) (aNil)))
  (m__law_codes_2 c__law_take c__law_code)
def m__law_codes_4 (c__law_take : Ct) (c__law_code : Ct) : MS :=
  sRet (mCall cTuple (aCons (mVar 2) (aNil)))
def m__law_codes_5 (c__law_take : Ct) (c__law_code : Ct) : MS :=
  sSeq (sFor (iRange1 (mVar 1)) (gNm 3)
  (m__law_codes_3 c__law_take c__law_code))
  (m__law_codes_4 c__law_take c__law_code)
def m__law_codes_6 (c__law_take : Ct) (c__law_code : Ct) : MS :=
  sSeq (sSet 2 (mLst (aNil)))
  (m__law_codes_5 c__law_take c__law_code)
def m__law_codes_7 (c__law_take : Ct) (c__law_code : Ct) : MS :=
  sSeq (sSet 1 (mOp oAdd (mVal (.int 1)) (mFnK c__law_take (pick [(false, 0), (false, 1)]) 2 0 (aCons (mVar 0) (aCons (mVal (.int 14)) (aNil))) (aNil))))
  (m__law_codes_6 c__law_take c__law_code)
def m__law_codes (c__law_take : Ct) (c__law_code : Ct) : MS := m__law_codes_7 c__law_take c__law_code
def mi__law_codes (c__law_take : Ct) (c__law_code : Ct) : MS :=
  sSeq (sSet 1 (mOp oAdd (mVal (.int 1)) (mFnK c__law_take (pick [(false, 0), (false, 1)]) 2 0 (aCons (mVar 0) (aCons (mVal (.int 14)) (aNil))) (aNil))))
  (sSeq (sSet 2 (mLst (aNil)))
  (sSeq (sFor (iRange1 (mVar 1)) (gNm 3)
  (sSeq (sSet 4 (mFnK c__law_code (pick [(false, 0), (false, 1)]) 2 0 (aCons (mVar 0) (aCons (mVar 1) (aNil))) (aNil)))
  (sSeq (sIf (bAnd (mTest (mOp oLt (mVar 3) (mVal (.int 3)))) (mTest (mOp oEq (mFnK c__law_take (pick [(false, 0), (false, 1)]) 2 0 (aCons (mVar 0) (aCons (mVal (.int 2)) (aNil))) (aNil)) (mVal (.int 0))))) (sSet 4 (mTup (aCons (mOp oIxA (mLst (aCons (mVal (.str ("split" : Str))) (aCons (mVal (.str ("call" : Str))) (aNil)))) (mFnK c__law_take (pick [(false, 0), (false, 1)]) 2 0 (aCons (mVar 0) (aCons (mVal (.int 2)) (aNil))) (aNil))) (aCons (mOp oAdd (mOp oAdd (mVar 3) (mVal (.int 1))) (mFnK c__law_take (pick [(false, 0), (false, 1)]) 2 0 (aCons (mVar 0) (aCons (mCall cMaxA (aCons (mVal (.int 1)) (aCons (mOp oSub (mOp oSub (mVar 1) (mVar 3)) (mVal (.int 1))) (aNil)))) (aNil))) (aNil))) (aNil))))) (sNext))
  (sExpr (mMeth 2 tAppend (aCons (mVar 4) (aNil)))))))
  (sRet (mCall cTuple (aCons (mVar 2) (aNil))))))
theorem me__law_codes (c__law_take : Ct) (c__law_code : Ct) : mi__law_codes c__law_take c__law_code = m__law_codes c__law_take c__law_code := by rfl
theorem d__law_codes {P : Program} {w : World} {K : Fg} {mg : Str → Option Value} {base : Heap} {f : Addr} {cdv : Value} {A : Around} {outer : List Env} {s : Shared} {H : Hp} {E : XK} {k : Nat} {c__law_take c__law_code : Ct} (g : Gb w K mg)
    (h__law_take_2 : Def P w K mg base k "_law_take" 2 [] (pick [(false, 0), (false, 1)]) c__law_take)
    (h__law_code_2 : Def P w K mg base k "_law_code" 2 [] (pick [(false, 0), (false, 1)]) c__law_code)
    (hr : Rm k (A.deeper (envOfC "_law_codes" (defScope s__law_codes) s.heap.objs.size f cdv))) (hgu : A.guards = some []) :
    DSs (cxOf CX0 P w K mg base N__law_codes "_law_codes" (defScope s__law_codes) f cdv A outer s H E).nox (defBody s__law_codes) (m__law_codes c__law_take c__law_code) :=
  have nd := sc__law_codes.nd
  have h : DSs (cxOf CX0 P w K mg base N__law_codes "_law_codes" (defScope s__law_codes) f cdv A outer s H E).nox (defBody s__law_codes) (mi__law_codes c__law_take c__law_code) :=
  (dss_cons (dst 1 nd (de_op opd_add (de_int) (de_def h__law_take_2 hr hgu (by rfl) (da_cons (dv 0) (da_cons (de_int) (da_nil))))))
  (dss_cons (dst 2 nd (de_lst (da_nil)))
  (dss_cons (ds_for (vs := [3]) PassesOwn.never (by rfl) (di_range1 (by rfl) g.b_range (dv 1)) (dgn 3 nd)
  (dss_cons (dst 4 nd (de_def h__law_code_2 hr hgu (by rfl) (da_cons (dv 0) (da_cons (dv 1) (da_nil)))))
  (dss_cons (ds_if (dt_w (dw_and (dtc opd_lt (dv 3) (de_int)) (dw_and1 (dtc (opd_eq (u64 hr)) (de_def h__law_take_2 hr hgu (by rfl) (da_cons (dv 0) (da_cons (de_int) (da_nil)))) (de_int))))) (dss_one (dst 4 nd (de_tup (da_cons (de_ixA (u1 hr) (de_lst (da_cons (de_str) (da_cons (de_str) (da_nil)))) (de_def h__law_take_2 hr hgu (by rfl) (da_cons (dv 0) (da_cons (de_int) (da_nil))))) (da_cons (de_op opd_add (de_op opd_add (dv 3) (de_int)) (de_def h__law_take_2 hr hgu (by rfl) (da_cons (dv 0) (da_cons (de_callB (calld_maxA (by rfl)) (by rfl) g.b_max (by rfl) (da_cons (de_int) (da_cons (de_op opd_sub (de_op opd_sub (dv 1) (dv 3)) (de_int)) (da_nil)))) (da_nil))))) (da_nil)))))) (dss_nil))
  (dss_one (ds_expr (de_meth (i := 2) met_append PySem.F.slot_list_append PySem.F.type_list_append (by rfl) (by first | exact .inl rfl | exact .inr (.inl rfl) | exact .inr (.inr rfl)) (da_cons (dv 4) (da_nil))))))))
  (dss_one (ds_ret (de_callTy calld_tuple (by rfl) g.b_tuple (by rfl) (da_cons (dv 2) (da_nil))))))))
  me__law_codes c__law_take c__law_code ▸ h
def N_law : List Str := ["_law_script", "#", "_law_pen_here", "_law_cases", "_law_turn", "_law_some", "_law_writing", "_law_k", "_law_spot", "_law_due", "_law_plain", "_law_named"]
theorem sc_law : FnScope N_law ["_law_script"] (defScope s_law) := ⟨rfl, rfl, rfl, by decide +kernel, rfl, by decide +kernel, by decide +kernel⟩
def m_law_0 (c__law_pen : Ct) (c__law_codes : Ct) (c__law_take : Ct) (c__law_run : Ct) (c_run : Ct) (cx_run : CtX) (cl__law_heard_run : Lam → LO → Ct) (tp : Addr) : MS :=
  sExpr (mMeth 3 tAppend (aCons (mTup (aCons (mVar 5) (aCons (mVar 6) (aCons (mOp oIxA (mLst (aCons (mVal (.int 0)) (aCons (mVal (.int 0)) (aCons (mCall cLen (aCons (mVar 6) (aNil))) (aCons (mFnK c__law_take (pick [(false, 0), (false, 1)]) 2 0 (aCons (mVar 2) (aCons (mOp oAdd (mCall cLen (aCons (mVar 6) (aNil))) (mVal (.int 1))) (aNil))) (aNil)) (aNil)))))) (mFnK c__law_take (pick [(false, 0), (false, 1)]) 2 0 (aCons (mVar 2) (aCons (mVal (.int 4)) (aNil))) (aNil))) (aNil))))) (aNil)))
def m_law_1 (c__law_pen : Ct) (c__law_codes : Ct) (c__law_take : Ct) (c__law_run : Ct) (c_run : Ct) (cx_run : CtX) (cl__law_heard_run : Lam → LO → Ct) (tp : Addr) : MS :=
  sSeq (sSet 6 (mSm jJoin (mVal (.str ("" : Str))) (aCons (mLc [7] (iRange1 (mFnK c__law_take (pick [(false, 0), (false, 1)]) 2 0 (aCons (mVar 2) (aCons (mVal (.int 6)) (aNil))) (aNil))) (gNm 7) (bYes) (mOp oIxA (mVal (.str ("ab0" : Str))) (mFnK c__law_take (pick [(false, 0), (false, 1)]) 2 0 (aCons (mVar 2) (aCons (mVal (.int 3)) (aNil))) (aNil)))) (aNil))))
  (m_law_0 c__law_pen c__law_codes c__law_take c__law_run c_run cx_run cl__law_heard_run tp)
def m_law_2 (c__law_pen : Ct) (c__law_codes : Ct) (c__law_take : Ct) (c__law_run : Ct) (c_run : Ct) (cx_run : CtX) (cl__law_heard_run : Lam → LO → Ct) (tp : Addr) : MS :=
  sSeq (sSet 5 (mFnK c__law_codes (pick [(false, 0)]) 1 0 (aCons (mVar 2) (aNil)) (aNil)))
  (m_law_1 c__law_pen c__law_codes c__law_take c__law_run c_run cx_run cl__law_heard_run tp)
def m_law_3 (c__law_pen : Ct) (c__law_codes : Ct) (c__law_take : Ct) (c__law_run : Ct) (c_run : Ct) (cx_run : CtX) (cl__law_heard_run : Lam → LO → Ct) (tp : Addr) : MS :=
  sIf (bOr (mTest (mOp oNe (mCall cRepr (aCons (mVar 10) (aNil))) (mCall cRepr (aCons (mVar 9) (aNil))))) (mTest (mOp oNe (mCall cRepr (aCons (mVar 11) (aNil))) (mCall cRepr (aCons (mVar 9) (aNil)))))) (sRet (mVal (.bool false))) (sNext)
def m_law_4 (c__law_pen : Ct) (c__law_codes : Ct) (c__law_take : Ct) (c__law_run : Ct) (c_run : Ct) (cx_run : CtX) (cl__law_heard_run : Lam → LO → Ct) (tp : Addr) : MS :=
  sSeq (sSet 11 (mLam 1 0 tp "law.<locals>.<lambda>" cl__law_heard_run (mFnK c_run (fun xs zs => pick [(true, 2), (true, 0), (true, 1)] xs (zs ++ [.int 0].map R.val)) 0 3 (aNil) (aCons (mVar 6) (aCons (mVar 8) (aCons (mVar 5) (aNil))))) (mFnX cx_run (fun xs zs => pick [(true, 2), (true, 0), (true, 1)] xs (zs ++ [.int 0].map R.val)) 0 3 (aNil) (aCons (mVar 6) (aCons (mVar 8) (aCons (mVar 5) (aNil)))))))
  (m_law_3 c__law_pen c__law_codes c__law_take c__law_run c_run cx_run cl__law_heard_run tp)
def m_law_5 (c__law_pen : Ct) (c__law_codes : Ct) (c__law_take : Ct) (c__law_run : Ct) (c_run : Ct) (cx_run : CtX) (cl__law_heard_run : Lam → LO → Ct) (tp : Addr) : MS :=
  sSeq (sSet 10 (mLam 1 0 tp "law.<locals>.<lambda>" cl__law_heard_run (mFnK c_run (fun xs zs => pick [(false, 0), (false, 1), (false, 2)] xs (zs ++ [.int 0].map R.val)) 3 0 (aCons (mVar 5) (aCons (mVar 6) (aCons (mVar 8) (aNil)))) (aNil)) (mFnX cx_run (fun xs zs => pick [(false, 0), (false, 1), (false, 2)] xs (zs ++ [.int 0].map R.val)) 3 0 (aCons (mVar 5) (aCons (mVar 6) (aCons (mVar 8) (aNil)))) (aNil))))
  (m_law_4 c__law_pen c__law_codes c__law_take c__law_run c_run cx_run cl__law_heard_run tp)
def m_law_6 (c__law_pen : Ct) (c__law_codes : Ct) (c__law_take : Ct) (c__law_run : Ct) (c_run : Ct) (cx_run : CtX) (cl__law_heard_run : Lam → LO → Ct) (tp : Addr) : MS :=
  sIf (mTest (mOp oIsNot (mVar 9) (mVal .none))) (m_law_5 c__law_pen c__law_codes c__law_take c__law_run c_run cx_run cl__law_heard_run tp) (sNext)
def m_law_7 (c__law_pen : Ct) (c__law_codes : Ct) (c__law_take : Ct) (c__law_run : Ct) (c_run : Ct) (cx_run : CtX) (cl__law_heard_run : Lam → LO → Ct) (tp : Addr) : MS :=
  sSeq (sSet 9 (mFnK c__law_run (pick [(false, 0), (false, 1), (false, 2), (false, 3)]) 4 0 (aCons (mVar 5) (aCons (mVar 6) (aCons (mVar 8) (aCons (mVal (.int 3000)) (aNil))))) (aNil)))
  (m_law_6 c__law_pen c__law_codes c__law_take c__law_run c_run cx_run cl__law_heard_run tp)
def m_law_8 (c__law_pen : Ct) (c__law_codes : Ct) (c__law_take : Ct) (c__law_run : Ct) (c_run : Ct) (cx_run : CtX) (cl__law_heard_run : Lam → LO → Ct) (tp : Addr) : MS :=
  sRet (mVal (.bool true))
def m_law_9 (c__law_pen : Ct) (c__law_codes : Ct) (c__law_take : Ct) (c__law_run : Ct) (c_run : Ct) (cx_run : CtX) (cl__law_heard_run : Lam → LO → Ct) (tp : Addr) : MS :=
  sSeq (sFor (iOf (mOp oAdd (mVar 3) (mRevB (mVar 3)))) (gTp 3 (gCs (gNm 5) (gCs (gNm 6) (gCs (gNm 8) (gNl)))))
  (m_law_7 c__law_pen c__law_codes c__law_take c__law_run c_run cx_run cl__law_heard_run tp))
  (m_law_8 c__law_pen c__law_codes c__law_take c__law_run c_run cx_run cl__law_heard_run tp)
def m_law_10 (c__law_pen : Ct) (c__law_codes : Ct) (c__law_take : Ct) (c__law_run : Ct) (c_run : Ct) (cx_run : CtX) (cl__law_heard_run : Lam → LO → Ct) (tp : Addr) : MS :=
  sSeq (sFor (iRange1 (mVal (.int 12))) (gNm 4)
  (m_law_2 c__law_pen c__law_codes c__law_take c__law_run c_run cx_run cl__law_heard_run tp))
  (m_law_9 c__law_pen c__law_codes c__law_take c__law_run c_run cx_run cl__law_heard_run tp)
def m_law_11 (c__law_pen : Ct) (c__law_codes : Ct) (c__law_take : Ct) (c__law_run : Ct) (c_run : Ct) (cx_run : CtX) (cl__law_heard_run : Lam → LO → Ct) (tp : Addr) : MS :=
  sSeq (sSet 3 (mLst (aNil)))
  (m_law_10 c__law_pen c__law_codes c__law_take c__law_run c_run cx_run cl__law_heard_run tp)
def m_law_12 (c__law_pen : Ct) (c__law_codes : Ct) (c__law_take : Ct) (c__law_run : Ct) (c_run : Ct) (cx_run : CtX) (cl__law_heard_run : Lam → LO → Ct) (tp : Addr) : MS :=
  sSeq (sSet 2 (mFnK c__law_pen (pick [(false, 0)]) 1 0 (aCons (mVar 0) (aNil)) (aNil)))
  (m_law_11 c__law_pen c__law_codes c__law_take c__law_run c_run cx_run cl__law_heard_run tp)
def m_law (c__law_pen : Ct) (c__law_codes : Ct) (c__law_take : Ct) (c__law_run : Ct) (c_run : Ct) (cx_run : CtX) (cl__law_heard_run : Lam → LO → Ct) (tp : Addr) : MS := m_law_12 c__law_pen c__law_codes c__law_take c__law_run c_run cx_run cl__law_heard_run tp
def mi_law (c__law_pen : Ct) (c__law_codes : Ct) (c__law_take : Ct) (c__law_run : Ct) (c_run : Ct) (cx_run : CtX) (cl__law_heard_run : Lam → LO → Ct) (tp : Addr) : MS :=
  sSeq (sSet 2 (mFnK c__law_pen (pick [(false, 0)]) 1 0 (aCons (mVar 0) (aNil)) (aNil)))
  (sSeq (sSet 3 (mLst (aNil)))
  (sSeq (sFor (iRange1 (mVal (.int 12))) (gNm 4)
  (sSeq (sSet 5 (mFnK c__law_codes (pick [(false, 0)]) 1 0 (aCons (mVar 2) (aNil)) (aNil)))
  (sSeq (sSet 6 (mSm jJoin (mVal (.str ("" : Str))) (aCons (mLc [7] (iRange1 (mFnK c__law_take (pick [(false, 0), (false, 1)]) 2 0 (aCons (mVar 2) (aCons (mVal (.int 6)) (aNil))) (aNil))) (gNm 7) (bYes) (mOp oIxA (mVal (.str ("ab0" : Str))) (mFnK c__law_take (pick [(false, 0), (false, 1)]) 2 0 (aCons (mVar 2) (aCons (mVal (.int 3)) (aNil))) (aNil)))) (aNil))))
  (sExpr (mMeth 3 tAppend (aCons (mTup (aCons (mVar 5) (aCons (mVar 6) (aCons (mOp oIxA (mLst (aCons (mVal (.int 0)) (aCons (mVal (.int 0)) (aCons (mCall cLen (aCons (mVar 6) (aNil))) (aCons (mFnK c__law_take (pick [(false, 0), (false, 1)]) 2 0 (aCons (mVar 2) (aCons (mOp oAdd (mCall cLen (aCons (mVar 6) (aNil))) (mVal (.int 1))) (aNil))) (aNil)) (aNil)))))) (mFnK c__law_take (pick [(false, 0), (false, 1)]) 2 0 (aCons (mVar 2) (aCons (mVal (.int 4)) (aNil))) (aNil))) (aNil))))) (aNil)))))))
  (sSeq (sFor (iOf (mOp oAdd (mVar 3) (mRevB (mVar 3)))) (gTp 3 (gCs (gNm 5) (gCs (gNm 6) (gCs (gNm 8) (gNl)))))
  (sSeq (sSet 9 (mFnK c__law_run (pick [(false, 0), (false, 1), (false, 2), (false, 3)]) 4 0 (aCons (mVar 5) (aCons (mVar 6) (aCons (mVar 8) (aCons (mVal (.int 3000)) (aNil))))) (aNil)))
  (sIf (mTest (mOp oIsNot (mVar 9) (mVal .none))) (sSeq (sSet 10 (mLam 1 0 tp "law.<locals>.<lambda>" cl__law_heard_run (mFnK c_run (fun xs zs => pick [(false, 0), (false, 1), (false, 2)] xs (zs ++ [.int 0].map R.val)) 3 0 (aCons (mVar 5) (aCons (mVar 6) (aCons (mVar 8) (aNil)))) (aNil)) (mFnX cx_run (fun xs zs => pick [(false, 0), (false, 1), (false, 2)] xs (zs ++ [.int 0].map R.val)) 3 0 (aCons (mVar 5) (aCons (mVar 6) (aCons (mVar 8) (aNil)))) (aNil))))
  (sSeq (sSet 11 (mLam 1 0 tp "law.<locals>.<lambda>" cl__law_heard_run (mFnK c_run (fun xs zs => pick [(true, 2), (true, 0), (true, 1)] xs (zs ++ [.int 0].map R.val)) 0 3 (aNil) (aCons (mVar 6) (aCons (mVar 8) (aCons (mVar 5) (aNil))))) (mFnX cx_run (fun xs zs => pick [(true, 2), (true, 0), (true, 1)] xs (zs ++ [.int 0].map R.val)) 0 3 (aNil) (aCons (mVar 6) (aCons (mVar 8) (aCons (mVar 5) (aNil)))))))
  (sIf (bOr (mTest (mOp oNe (mCall cRepr (aCons (mVar 10) (aNil))) (mCall cRepr (aCons (mVar 9) (aNil))))) (mTest (mOp oNe (mCall cRepr (aCons (mVar 11) (aNil))) (mCall cRepr (aCons (mVar 9) (aNil)))))) (sRet (mVal (.bool false))) (sNext)))) (sNext))))
  (sRet (mVal (.bool true))))))
theorem me_law (c__law_pen : Ct) (c__law_codes : Ct) (c__law_take : Ct) (c__law_run : Ct) (c_run : Ct) (cx_run : CtX) (cl__law_heard_run : Lam → LO → Ct) (tp : Addr) : mi_law c__law_pen c__law_codes c__law_take c__law_run c_run cx_run cl__law_heard_run tp = m_law c__law_pen c__law_codes c__law_take c__law_run c_run cx_run cl__law_heard_run tp := by rfl
theorem d_law {P : Program} {w : World} {K : Fg} {mg : Str → Option Value} {base : Heap} {f : Addr} {cdv : Value} {A : Around} {outer : List Env} {s : Shared} {H : Hp} {E : XK} {k : Nat} {c__law_pen c__law_codes c__law_take c__law_run c_run : Ct} {cx_run : CtX} {cl__law_heard_run : Lam → LO → Ct} {tp : Addr} (g : Gb w K mg)
    (h__law_pen_1 : Def P w K mg base k "_law_pen" 1 [] (pick [(false, 0)]) c__law_pen)
    (h__law_codes_1 : Def P w K mg base k "_law_codes" 1 [] (pick [(false, 0)]) c__law_codes)
    (h__law_take_2 : Def P w K mg base k "_law_take" 2 [] (pick [(false, 0), (false, 1)]) c__law_take)
    (h__law_run_4 : Def P w K mg base k "_law_run" 4 [] (pick [(false, 0), (false, 1), (false, 2), (false, 3)]) c__law_run)
    (h_run_3 : Def P w K mg base k "run" 3 [] (fun xs zs => pick [(false, 0), (false, 1), (false, 2)] xs (zs ++ [.int 0].map R.val)) c_run)
    (h_run_0_text_at_codes : Def P w K mg base k "run" 0 ["text", "at", "codes"] (fun xs zs => pick [(true, 2), (true, 0), (true, 1)] xs (zs ++ [.int 0].map R.val)) c_run)
    (xh_run_3 : DefX P w K mg base k "run" 3 [] (fun xs zs => pick [(false, 0), (false, 1), (false, 2)] xs (zs ++ [.int 0].map R.val)) cx_run)
    (xh_run_0_text_at_codes : DefX P w K mg base k "run" 0 ["text", "at", "codes"] (fun xs zs => pick [(true, 2), (true, 0), (true, 1)] xs (zs ++ [.int 0].map R.val)) cx_run)
    (hl__law_heard_run : LamD P w K mg base k "_law_heard_run" cl__law_heard_run)
    (lm : LamM K mg base cdv tp)
    (hrl : Rm (k + 2) (A.deeper (envOfC "law" (defScope s_law) s.heap.objs.size f cdv))) (hgu : A.guards = some []) :
    DSs (cxOf CX0 P w K mg base N_law "law" (defScope s_law) f cdv A outer s H E).nox (defBody s_law) (m_law c__law_pen c__law_codes c__law_take c__law_run c_run cx_run cl__law_heard_run tp) :=
  have nd := sc_law.nd
  have hr0 := Rm.mono hrl (Nat.le_add_right k 2); have hr := hr0
  have h : DSs (cxOf CX0 P w K mg base N_law "law" (defScope s_law) f cdv A outer s H E).nox (defBody s_law) (mi_law c__law_pen c__law_codes c__law_take c__law_run c_run cx_run cl__law_heard_run tp) :=
  (dss_cons (dst 2 nd (de_def h__law_pen_1 hr hgu (by rfl) (da_cons (dv 0) (da_nil))))
  (dss_cons (dst 3 nd (de_lst (da_nil)))
  (dss_cons (ds_for (vs := [4]) PassesOwn.never (by rfl) (di_range1 (by rfl) g.b_range (de_int)) (dgn 4 nd)
  (dss_cons (dst 5 nd (de_def h__law_codes_1 hr hgu (by rfl) (da_cons (dv 2) (da_nil))))
  (dss_cons (dst 6 nd (de_sm smd_join PySem.F.slot_str_join PySem.F.type_str_join (de_str) (da_cons (de_lc (own := [(("_law_k" : Str), 7)]) (by rfl) nd (di_range1 (by rfl) g.b_range (de_def h__law_take_2 hr hgu (by rfl) (da_cons (dv 2) (da_cons (de_int) (da_nil))))) (blkOk_by (N := N_law) (sc := defScope s_law) (own := [(("_law_k" : Str), 7)]) (by decide +kernel)) (fun _ _ _ _ _ => dgn 7 nd) (fun _ _ _ _ _ => dts_nil) (fun _ _ _ _ _ => de_ixA (u1 hr) (de_str) (de_def h__law_take_2 hr hgu (by rfl) (da_cons (dv 2) (da_cons (de_int) (da_nil)))))) (da_nil))))
  (dss_one (ds_expr (de_meth (i := 3) met_append PySem.F.slot_list_append PySem.F.type_list_append (by rfl) (by first | exact .inl rfl | exact .inr (.inl rfl) | exact .inr (.inr rfl)) (da_cons (de_tup (da_cons (dv 5) (da_cons (dv 6) (da_cons (de_ixA (u1 hr) (de_lst (da_cons (de_int) (da_cons (de_int) (da_cons (de_callB calld_len (by rfl) g.b_len (by rfl) (da_cons (dv 6) (da_nil))) (da_cons (de_def h__law_take_2 hr hgu (by rfl) (da_cons (dv 2) (da_cons (de_op opd_add (de_callB calld_len (by rfl) g.b_len (by rfl) (da_cons (dv 6) (da_nil))) (de_int)) (da_nil)))) (da_nil)))))) (de_def h__law_take_2 hr hgu (by rfl) (da_cons (dv 2) (da_cons (de_int) (da_nil))))) (da_nil))))) (da_nil))))))))
  (dss_cons (ds_for (vs := [5, 6, 8]) PassesOwn.never (by rfl) (di_of (de_op opd_add (dv 3) (de_revB (dv 3)))) (dg_tup (by rfl) (dgs_cons (dgn 5 nd) (dgs_cons (dgn 6 nd) (dgs_cons (dgn 8 nd) (dgs_nil)))))
  (dss_cons (dst 9 nd (de_def h__law_run_4 hr hgu (by rfl) (da_cons (dv 5) (da_cons (dv 6) (da_cons (dv 8) (da_cons (de_int) (da_nil)))))))
  (dss_one (ds_if (dtc opd_isnot (dv 9) (de_non)) (dss_cons (dst 10 nd (de_lamcall (kl := k) hl__law_heard_run lm (by kernel_rfl) hr0 hrl hgu (by rfl) (LamX.lamS_by (by rfl)) (by rfl) (fun _ _ _ _ _ => by rfl) (fun _ _ _ _ _ _ _ hr hgu => de_def h_run_3 hr hgu (by rfl) (da_cons (dv 5) (da_cons (dv 6) (da_cons (dv 8) (da_nil))))) (fun _ _ _ _ _ _ _ hr hgu => ex_def xh_run_3 hr hgu (by rfl) (da_cons (dv 5) (da_cons (dv 6) (da_cons (dv 8) (da_nil)))))))
  (dss_cons (dst 11 nd (de_lamcall (kl := k) hl__law_heard_run lm (by kernel_rfl) hr0 hrl hgu (by rfl) (LamX.lamS_by (by rfl)) (by rfl) (fun _ _ _ _ _ => by rfl) (fun _ _ _ _ _ _ _ hr hgu => de_defK0 (ks := ["text", "at", "codes"]) h_run_0_text_at_codes hr hgu (by rfl) (dk_cons (dv 6) (dk_cons (dv 8) (dk_cons (dv 5) (dk_nil))))) (fun _ _ _ _ _ _ _ hr hgu => ex_defK0 (ks := ["text", "at", "codes"]) xh_run_0_text_at_codes hr hgu (by rfl) (dk_cons (dv 6) (dk_cons (dv 8) (dk_cons (dv 5) (dk_nil)))))))
  (dss_one (ds_if (dt_w (dw_or (dtc (opd_ne (u64 hr)) (de_callB (calld_repr hgu (u66 hr)) (by rfl) g.b_repr (by rfl) (da_cons (dv 10) (da_nil))) (de_callB (calld_repr hgu (u66 hr)) (by rfl) g.b_repr (by rfl) (da_cons (dv 9) (da_nil)))) (dw_or1 (dtc (opd_ne (u64 hr)) (de_callB (calld_repr hgu (u66 hr)) (by rfl) g.b_repr (by rfl) (da_cons (dv 11) (da_nil))) (de_callB (calld_repr hgu (u66 hr)) (by rfl) g.b_repr (by rfl) (da_cons (dv 9) (da_nil))))))) (dss_one (ds_ret (de_bl))) (dss_nil))))) (dss_nil)))))
  (dss_one (ds_ret (de_bl)))))))
  me_law c__law_pen c__law_codes c__law_take c__law_run c_run cx_run cl__law_heard_run tp ▸ h
def N_Astray___init__ : List Str := ["self", "number"]
theorem sc_Astray___init__ : FnScope N_Astray___init__ ["self", "number"] (defScope s_Astray___init__) := ⟨rfl, rfl, rfl, by decide +kernel, rfl, by decide +kernel, by decide +kernel⟩
theorem k_Astray {P : Program} {w : World} {K : Fg} {mg : Str → Option Value} {base : Heap} {fd : FuncData} (g : Gb w K mg) (F : FunD K "__init__" "Astray.__init__" (defArgs s_Astray___init__) (defBody s_Astray___init__) (defScope s_Astray___init__) [] [] (He.ma K (He.ga K "Astray") "__init__") fd) (hb : Binds K fd ["self", "number"] []) : XMk1 P w K mg base "Astray" "number" :=
  XF.mk1_okV (tx := ("the codes go astray" : Str)) g.x6 g.n_Astray F sc_Astray___init__ (fun cdv A outer s H E => pss_cons (ps_expr (pe_xinit xb_VE (XF.baseT_ok g.x7 g.n_ReadError) (by rfl) (pa_cons (pe_var (i := 0) (by rfl) (by first | exact .inl rfl | exact .inr (.inl rfl) | exact .inr (.inr rfl))) (pa_cons pe_str pa_nil)))) (pss_one (ps_xst xb_VE (pe_var (i := 0) (by rfl) (by first | exact .inl rfl | exact .inr (.inl rfl) | exact .inr (.inr rfl))) (pe_var (i := 1) (by rfl) (by first | exact .inl rfl | exact .inr (.inl rfl) | exact .inr (.inr rfl)))))) hb
end L51
namespace L51
open PySem L2 PyProof.Rows DL
local macro_rules | `(tactic| walk_at "G") => `(tactic| ((conv => whnf); try dsimp only [DL.MB.toD, DL.cellOf]))
local macro_rules | `(tactic| walk_at "O") => `(tactic| first | assumption | omega | (refine ⟨?_, ?_⟩ <;> first | assumption | omega) | (simp only [DL.app_len]; omega) | (simp only [List.length_append, List.length_cons, List.length_nil, List.length_map]; omega))
local macro_rules | `(tactic| walk_at "P") => `(tactic| first | omega | (simp only [List.length_map]; omega))
local macro_rules | `(tactic| walk_at "R") => `(tactic| (walk_at "G"; repeat ((first | (apply DL.Rq.mk; (· walk_at "O")) | (apply DL.on_i; (· assumption)) | (apply DL.rqB.mk; (· exact DL.okR_of (by walk_at "P") (by walk_at "P"))) | (apply DL.rqB.mk; (· exact DL.okR2_of (by walk_at "P") (by walk_at "P") (by walk_at "P") (by walk_at "P")))); walk_at "G")))
local macro_rules | `(tactic| walk_at "N") => `(tactic| (walk_at "R"; repeat ((first | (refine And.intro rfl ?_) | (refine And.intro (of_decide_eq_true rfl) ?_) | (refine And.intro (by decide) ?_)); walk_at "R")))
def PenOk (b : Nat) (pen : List D) : Prop := ∃ (gone rest : Int) (cells : List Int), pen = [.list (cells.map .int), .int gone, .int rest] ∧ 0 ≤ gone ∧ gone + b ≤ 2 ^ 40 ∧ 0 ≤ rest ∧ cells.length ≤ 63
theorem PenOk.mono {a b : Nat} {pen : List D} (h : PenOk a pen) (q : b ≤ a) : PenOk b pen := by
  obtain ⟨g, r, c, e, h1, h2, h3⟩ := h
  exact ⟨g, r, c, e, h1, by omega, h3⟩
def c_take : Ct := fun as P => ∃ pen many b, as = [.box (.L pen), .val (.int many)] ∧ PenOk (b + 1) pen ∧ 0 < many ∧ many < 1073741824 ∧ ∀ v pen', 0 ≤ v → v < many → PenOk b pen' → P (.val (.int v)) [.box (.L pen'), .val (.int many)]
theorem use_take {pen : List D} {many : Int} {b : Nat} {P : R → List Ar → Prop} (hp : PenOk (b + 1) pen) (h1 : 0 < many) (h2 : many < 1073741824) (h : ∀ v pen', 0 ≤ v → v < many → PenOk b pen' → P (.val (.int v)) [.box (.L pen'), .val (.int many)]) : Cl c_take [.box (.L pen), .val (.int many)] P := ⟨pen, many, b, rfl, hp, h1, h2, h⟩
theorem w_take (as : List Ar) (P : R → List Ar → Prop) (h : c_take as P) : ctOf 7 m__law_take as P := by
  obtain ⟨pen, many, b, rfl, ⟨gone, rest, cells, rfl, h0, h1, hr, hc⟩, hm, hm2, hP⟩ := h
  have hb : gone < 2 ^ 40 := by omega
  have sl := sizeLine_eq
  have fin : ∀ x g r : Int, 0 ≤ g → g + b ≤ 2 ^ 40 → 0 ≤ r → P (.val (.int (x % many))) [.box (.L [.list (cells.map .int), .int g, .int r]), .val (.int many)] := fun x g r h1 h2 h3 =>
    hP _ _ (Int.emod_nonneg _ (by omega)) (Int.emod_lt_of_pos _ hm) ⟨_, _, cells, rfl, h1, h2, h3, hc⟩
  walk_at "R"
  apply br_d <;> intro hd
  · walk_at "R"
    exact fin _ _ _ h0 (by omega) (Int.ediv_nonneg hr (by omega))
  · have tail : ∀ c : Int, 0 ≤ c % 2147483629 + 8069 * gone + 521 ∧ c % 2147483629 + 8069 * gone + 521 ≤ 2 ^ 200 := fun c => by
      have := Int.emod_nonneg c (show (2147483629 : Int) ≠ 0 by decide)
      have := Int.emod_lt_of_pos c (show (0 : Int) < 2147483629 by decide)
      omega
    have tail2 : ∀ c d : Int, 0 ≤ c % 2147483587 * (gone + 50077) + d % 1021 ∧ c % 2147483587 * (gone + 50077) + d % 1021 ≤ 2 ^ 200 := fun c d => by
      have := Int.emod_nonneg c (show (2147483587 : Int) ≠ 0 by decide)
      have := Int.emod_lt_of_pos c (show (0 : Int) < 2147483587 by decide)
      have := Int.emod_nonneg d (show (1021 : Int) ≠ 0 by decide)
      have := Int.emod_lt_of_pos d (show (0 : Int) < 1021 by decide)
      have h1 := mul_bd (a := c % 2147483587) (b := gone + 50077) (A := 2 ^ 31) (B := 2 ^ 43) (by omega) (by omega) (by omega) (by omega)
      omega
    walk_at "R"
    apply br_d <;> intro hd
    · obtain ⟨c, hat⟩ := at_ints cells (i := gone % ((cells.map PyData.int).length : Int)) (Int.emod_nonneg _ (by omega)) (by rw [List.length_map] at hd ⊢; exact Int.emod_lt_of_pos _ (by omega))
      have t1 := tail c
      have t2 := tail2 ((c % 2147483629 + 8069 * gone + 521) ^ (3 : Int).toNat) c
      walk_at "R"
      apply br_d <;> intro hd
      · walk_at "R"
        apply br_d <;> intro hd
        · walk_at "R"
          exact fin _ _ _ (by omega) (by omega) (Int.ediv_nonneg (by split <;> omega) (by omega))
        · walk_at "R"
          exact fin _ _ _ (by omega) (by omega) hr
      · walk_at "R"
        exact fin _ _ _ (by omega) (by omega) hr
    · have t1 := tail 83
      have t2 := tail2 (((83 : Int) % 2147483629 + 8069 * gone + 521) ^ (3 : Int).toNat) 83
      walk_at "R"
      apply br_d <;> intro hd
      · walk_at "R"
        exact absurd hd (by omega)
      · walk_at "R"
        exact fin _ _ _ (by omega) (by omega) hr
theorem pen_start {ns : List Int} : PenOk 1000000000000 [.list ((cutI ns none (some 63)).map .int), .int 0, .int 0] := by
  refine ⟨0, 0, cutI ns none (some 63), rfl, by omega, by decide, by omega, ?_⟩
  unfold cutI
  rw [HT.sIx_none, List.length_take]
  have : HT.sIx ns.length ns.length (some 63) ≤ 63 := by
    rw [show (some (63 : Int)) = some ((63 : Nat) : Int) from rfl, HT.sIx_nat]; omega
  omega
inductive JW where
  | split | commit | back | call
  deriving DecidableEq
inductive Cd where
  | sg (b : Bool) (x : Str) | jmp (w : JW) (t : Nat) | ret | cut | fail | done
def JW.s : JW → Str
  | .split => "split"
  | .commit => "commit"
  | .back => "back"
  | .call => "call"
def Cd.D : Cd → D
  | .sg true x => .tuple [.str "sign", .str x]
  | .sg false x => .tuple [.str "but", .str x]
  | .jmp w t => .tuple [.str w.s, .int (t : Int)]
  | .ret => .tuple [.str "return"]
  | .cut => .tuple [.str "cut"]
  | .fail => .tuple [.str "fail"]
  | .done => .tuple [.str "done"]
def CdOk : Cd → Prop
  | .sg _ x => okS x ∧ x.length ≤ 100
  | .jmp _ t => t ≤ 10000
  | _ => True
def codesD (C : List Cd) : D := .tuple (C.map Cd.D)
abbrev Hp51 := List (Nat × Option Nat)
inductive SR where
  | on (n h : Nat) (l : Hp51) | no | ast
def flS : Hp51 → Nat → Nat → SR
  | [], _, _ => .no
  | (m, some a) :: r, _, _ => .on m a r
  | (_, none) :: r, n, h => flS r n h
/-- does a code with a sign take what stands at h -/
def tkS (s : Bool) (x tx : Str) (h : Nat) : Bool := match tx.cps.toList[h]? with
  | some c => strIn ⟨#[c]⟩ x == s
  | none => false
def stp (c : Cd) (tx : Str) (n h : Nat) (l : Hp51) : SR := match c with
  | .sg s x => if tkS s x tx h = true then .on (n + 1) (h + 1) l else flS l n h
  | .jmp .split t => .on (n + 1) h ((t, some h) :: l)
  | .jmp .call t => .on t h ((n + 1, none) :: l)
  | .jmp .commit t => match l with
    | (_, some _) :: r => .on t h r
    | _ => .ast
  | .jmp .back t => match l with
    | (_, some a) :: r => .on t a r
    | _ => .ast
  | .ret => match l with
    | (m, none) :: r => .on m h r
    | _ => .ast
  | .cut => match l with
    | (_, some _) :: r => flS r n h
    | _ => .ast
  | .fail => flS l n h
  | .done => .ast
inductive RR51 where
  | fin (h g : Nat) | non (g : Nat) | ast (n : Nat)
def rn (C : List Cd) (tx : Str) : Nat → Nat → Nat → Nat → Hp51 → Option RR51
  | 0, _, _, _, _ => none
  | f + 1, g, n, h, l => match C[n]? with
    | none => none
    | some .done => some (.fin h (g + 1))
    | some c => match stp c tx n h l with
      | .no => some (.non (g + 1))
      | .ast => some (.ast n)
      | .on n' h' l' => if C.length ≤ n' then some (.ast n) else rn C tx f (g + 1) n' h' l'
def oD51 : Option Nat → D
  | none => .none
  | some a => .int (a : Int)
theorem emp_a {α : Type} (A : List α) (x : α) : (A ++ [x]).isEmpty = false := by simp
theorem lst_a {α : Type} (A : List α) (x : α) : (A ++ [x]).getLast? = some x := by simp
theorem atn_a {α : Type} (A : List α) (x : α) : atI (A ++ [x]) (-1) = some x := by
  have h : ixN (A ++ [x]).length (-1) = some A.length := by
    unfold ixN
    rw [List.length_append, List.length_singleton, if_neg (by omega), if_pos (by omega)]
    congr 1
    omega
  unfold atI
  rw [h]
  simp
theorem ng_a (A : List X1) (x : X1) : ndGet (.lst (A ++ [x])) (.int (-1)) = some x := atn_a A x
theorem drp_a {α : Type} (A : List α) (x : α) : (A ++ [x]).dropLast = A := by simp
def hpX (l : Hp51) : List X1 := (l.map fun p => X1.val (.tuple [.int (p.1 : Int), oD51 p.2])).reverse
theorem hpX_cons (p : Nat × Option Nat) (l : Hp51) : hpX (p :: l) = hpX l ++ [X1.val (.tuple [.int (p.1 : Int), oD51 p.2])] := by
  unfold hpX
  rw [List.map_cons, List.reverse_cons]
theorem hpX_len (l : Hp51) : (hpX l).length = l.length := by
  unfold hpX
  rw [List.length_reverse, List.length_map]
def rF (C : List Cd) (tx : Str) (n h g : Nat) (b : Addr) : List (Str × X1) := [("of_codes", .val (codesD C)), ("of_text", .val (.str tx)), ("now", .val (.int (n : Int))), ("here", .val (.int (h : Int))), ("heap", .adr 1 b), ("gone", .val (.int (g : Int)))]
def rG (x dx b : Addr) (C : List Cd) (tx : Str) (n h g : Nat) (l : Hp51) : Gh := [(x, .ins "Run" dx (rF C tx n h g b)), (b, .lst (hpX l))]
def c_ri : Ct := fun as P => ∃ (C : List Cd) (tx : Str) (a : Nat) (x dx : Addr), as = [.adr 0 x, .val (codesD C), .val (.str tx), .val (.int (a : Int)), .gh [(x, .ins "Run" dx [])]] ∧ ∀ b : Addr, P (.val .none) [.adr 0 x, .val (codesD C), .val (.str tx), .val (.int (a : Int)), .gh (rG x dx b C tx 0 a 0 [])]
theorem w_ri (as : List Ar) (P : R → List Ar → Prop) (h : c_ri as P) : ctOf 5 m_Run___init__ as P := by
  obtain ⟨C, tx, a, x, dx, rfl, hP⟩ := h
  have sl := sizeLine_eq
  walk_at "N"
  intro b
  walk_at "N"
  exact hP b
def c_rf : Ct := fun as P => ∃ (C : List Cd) (tx : Str) (n h g : Nat) (l : Hp51) (x dx b : Addr), as = [.adr 0 x, .gh (rG x dx b C tx n h g l)] ∧ l.length ≤ 100000 ∧
  (∀ n' h' l', flS l n h = .on n' h' l' → P (.val (.bool true)) [.adr 0 x, .gh (rG x dx b C tx n' h' g l')]) ∧ (flS l n h = .no → P (.val (.bool false)) [.adr 0 x, .gh (rG x dx b C tx n h g [])])
theorem use_rf {C : List Cd} {tx : Str} {n h g : Nat} {l : Hp51} {x dx b : Addr} {P : R → List Ar → Prop} (h0 : l.length ≤ 100000) (h1 : ∀ n' h' l', flS l n h = .on n' h' l' → P (.val (.bool true)) [.adr 0 x, .gh (rG x dx b C tx n' h' g l')]) (h2 : flS l n h = .no → P (.val (.bool false)) [.adr 0 x, .gh (rG x dx b C tx n h g [])]) : Cl c_rf [.adr 0 x, .gh (rG x dx b C tx n h g l)] P := ⟨C, tx, n, h, g, l, x, dx, b, rfl, h0, h1, h2⟩
theorem w_rf (as : List Ar) (P : R → List Ar → Prop) (h : c_rf as P) : ctOf 4 m_Run_failed as P := by
  obtain ⟨C, tx, n, h, g, l, x, dx, b, rfl, hl, h1, h2⟩ := h
  have sl := sizeLine_eq
  unfold rG rF
  walk_at "N"
  refine ⟨fun m ρ => ∃ (l' : Hp51) (s2 s3 : Option Ce), flS l' n h = flS l n h ∧ m = l'.length ∧ ρ = [some (.adr 0 x), some (.gh (rG x dx b C tx n h g l')), s2, s3], ⟨_, l, none, none, rfl, rfl, rfl⟩, ?_⟩
  rintro m ρ ⟨l', s2, s3, e, rfl, rfl⟩
  cases l' with
  | nil =>
    unfold rG rF
    walk_at "N"
    exact h2 e.symm
  | cons p r =>
    obtain ⟨k, o⟩ := p
    unfold rG rF
    rw [hpX_cons]
    walk_at "N"
    rw [emp_a]
    walk_at "N"
    rw [lst_a]
    walk_at "N"
    rw [drp_a]
    cases o with
    | some a =>
      walk_at "N"
      exact h1 k a r e.symm
    | none =>
      walk_at "N"
      exact ⟨r.length, Nat.lt_succ_self _, r, _, _, e, rfl, rfl⟩
def c_rt : Ct := fun as P => ∃ (C : List Cd) (tx : Str) (n h g : Nat) (f : Bool) (m : Nat) (o : Option Nat) (r : Hp51) (x dx b : Addr), as = [.adr 0 x, .val (.bool f), .gh (rG x dx b C tx n h g ((m, o) :: r))] ∧ o.isSome = f ∧
  P (.val (.tuple [.int (m : Int), oD51 o])) [.adr 0 x, .val (.bool f), .gh (rG x dx b C tx n h g r)]
theorem use_rt {C : List Cd} {tx : Str} {n h g : Nat} {f : Bool} {m : Nat} {o : Option Nat} {r : Hp51} {x dx b : Addr} {P : R → List Ar → Prop} (h0 : o.isSome = f) (h1 : P (.val (.tuple [.int (m : Int), oD51 o])) [.adr 0 x, .val (.bool f), .gh (rG x dx b C tx n h g r)]) : Cl c_rt [.adr 0 x, .val (.bool f), .gh (rG x dx b C tx n h g ((m, o) :: r))] P := ⟨C, tx, n, h, g, f, m, o, r, x, dx, b, rfl, h0, h1⟩
theorem w_rt (as : List Ar) (P : R → List Ar → Prop) (h : c_rt as P) : ctOf 3 m_Run_taken as P := by
  obtain ⟨C, tx, n, h, g, f, m, o, r, x, dx, b, rfl, rfl, hP⟩ := h
  have sl := sizeLine_eq
  unfold rG rF
  rw [hpX_cons]
  walk_at "N"
  rw [emp_a]
  walk_at "N"
  rw [ng_a]
  cases o with
  | some a =>
    walk_at "N"
    rw [lst_a]
    walk_at "N"
    rw [drp_a]
    exact hP
  | none =>
    walk_at "N"
    rw [lst_a]
    walk_at "N"
    rw [drp_a]
    exact hP
def cx_rt : CtX := fun as P => ∃ (C : List Cd) (tx : Str) (n h g : Nat) (f : Bool) (l : Hp51) (x dx b : Addr), as = [.adr 0 x, .val (.bool f), .gh (rG x dx b C tx n h g l)] ∧ (∀ m o r, l = (m, o) :: r → o.isSome ≠ f) ∧ P "Astray" [("number", .int (n : Int))]
theorem usex_rt {C : List Cd} {tx : Str} {n h g : Nat} {f : Bool} {l : Hp51} {x dx b : Addr} {P : Str → List (Str × D) → Prop} (h0 : ∀ m o r, l = (m, o) :: r → o.isSome ≠ f) (h1 : P "Astray" [("number", .int (n : Int))]) : ClX cx_rt [.adr 0 x, .val (.bool f), .gh (rG x dx b C tx n h g l)] P := ⟨C, tx, n, h, g, f, l, x, dx, b, rfl, h0, h1⟩
theorem wx_rt (as : List Ar) (P : Str → List (Str × D) → Prop) (h : cx_rt as P) : ctX 3 mx_Run_taken as P := by
  obtain ⟨C, tx, n, h, g, f, l, x, dx, b, rfl, h0, hP⟩ := h
  have sl := sizeLine_eq
  unfold rG rF
  cases l with
  | nil =>
    walk_at "N"
    exact hP
  | cons p r =>
    obtain ⟨m, o⟩ := p
    have h0 := h0 m o r rfl
    rw [hpX_cons]
    walk_at "N"
    rw [emp_a]
    walk_at "N"
    rw [ng_a]
    cases o with
    | some a =>
      obtain rfl : f = false := by cases f <;> first | rfl | exact absurd rfl h0
      walk_at "N"
      exact hP
    | none =>
      obtain rfl : f = true := by cases f <;> first | rfl | exact absurd rfl h0
      walk_at "N"
      exact hP
theorem flS_ast : ∀ {l : Hp51} {n h : Nat}, flS l n h ≠ .ast
  | [], _, _ => by rw [flS]; exact fun z => by cases z
  | (_, some _) :: _, _, _ => by rw [flS]; exact fun z => by cases z
  | (_, none) :: r, n, h => by rw [flS]; exact flS_ast
def sgS (s : Bool) : Str := if s = true then "sign" else "but"
def c_rs : Ct := fun as P => ∃ (C : List Cd) (tx : Str) (n h g : Nat) (s : Bool) (y : Str) (l : Hp51) (x dx b : Addr), as = [.adr 0 x, .val (.str (sgS s)), .val (.str y), .gh (rG x dx b C tx n h g l)] ∧ l.length ≤ 100000 ∧ tx.length ≤ 100 ∧
  (∀ n' h' l', stp (.sg s y) tx n h l = .on n' h' l' → P (.val (.bool true)) [.adr 0 x, .val (.str (sgS s)), .val (.str y), .gh (rG x dx b C tx n' h' g l')]) ∧ (stp (.sg s y) tx n h l = .no → P (.val (.bool false)) [.adr 0 x, .val (.str (sgS s)), .val (.str y), .gh (rG x dx b C tx n h g [])])
theorem use_rs {C : List Cd} {tx : Str} {n h g : Nat} {s : Bool} {y : Str} {l : Hp51} {x dx b : Addr} {P : R → List Ar → Prop} (h0 : l.length ≤ 100000) (h1 : tx.length ≤ 100) (h2 : ∀ n' h' l', stp (.sg s y) tx n h l = .on n' h' l' → P (.val (.bool true)) [.adr 0 x, .val (.str (sgS s)), .val (.str y), .gh (rG x dx b C tx n' h' g l')]) (h3 : stp (.sg s y) tx n h l = .no → P (.val (.bool false)) [.adr 0 x, .val (.str (sgS s)), .val (.str y), .gh (rG x dx b C tx n h g [])]) : Cl c_rs [.adr 0 x, .val (.str (sgS s)), .val (.str y), .gh (rG x dx b C tx n h g l)] P := ⟨C, tx, n, h, g, s, y, l, x, dx, b, rfl, h0, h1, h2, h3⟩
theorem w_rs (as : List Ar) (P : R → List Ar → Prop) (h : c_rs as P) : ctOf 4 (m_Run_signed c_rf) as P := by
  obtain ⟨C, tx, n, h, g, s, y, l, x, dx, b, rfl, h0, h1, h2, h3⟩ := h
  have sl := sizeLine_eq
  have fl : tx.cps.toList.length = tx.length := Array.length_toList
  have n1 : tkS s y tx h = false → ∀ n' h' l', flS l n h = .on n' h' l' → P (.val (.bool true)) [.adr 0 x, .val (.str (sgS s)), .val (.str y), .gh (rG x dx b C tx n' h' g l')] := fun z n' h' l' e => h2 n' h' l' (by rw [stp, if_neg (by rw [z]; simp)]; exact e)
  have n2 : tkS s y tx h = false → flS l n h = .no → P (.val (.bool false)) [.adr 0 x, .val (.str (sgS s)), .val (.str y), .gh (rG x dx b C tx n h g [])] := fun z e => h3 (by rw [stp, if_neg (by rw [z]; simp)]; exact e)
  have y1 : tkS s y tx h = true → P (.val (.bool true)) [.adr 0 x, .val (.str (sgS s)), .val (.str y), .gh (rG x dx b C tx (n + 1) (h + 1) g l)] := fun z => h2 _ _ _ (by rw [stp, if_pos z])
  unfold rG rF
  walk_at "N"
  apply br_d <;> intro hd
  · have hlt : h < tx.length := by omega
    obtain ⟨c, hc⟩ : ∃ c, tx.cps.toList[h]? = some c := ⟨_, List.getElem?_eq_getElem (by omega)⟩
    have ha : atI tx.cps.toList (h : Int) = some c := at_nat hc
    have ht : tkS s y tx h = (strIn ⟨#[c]⟩ y == s) := by unfold tkS; rw [hc]
    rw [ht] at n1 n2 y1
    walk_at "N"
    cases s with
    | true =>
      cases hb : strIn ⟨#[c]⟩ y with
      | true =>
        rw [hb] at y1
        walk_at "N"
        exact y1 rfl
      | false =>
        rw [hb] at n1 n2
        walk_at "N"
        refine use_rf (C := C) (tx := tx) (n := n) (h := h) (g := g) (l := l) (x := x) (dx := dx) (b := b) h0 (fun n' h' l' e => ?_) (fun e => ?_)
        · have := n1 rfl n' h' l' e
          walk_at "N"
          exact this
        · have := n2 rfl e
          walk_at "N"
          exact this
    | false =>
      cases hb : strIn ⟨#[c]⟩ y with
      | false =>
        rw [hb] at y1
        walk_at "N"
        exact y1 rfl
      | true =>
        rw [hb] at n1 n2
        walk_at "N"
        refine use_rf (C := C) (tx := tx) (n := n) (h := h) (g := g) (l := l) (x := x) (dx := dx) (b := b) h0 (fun n' h' l' e => ?_) (fun e => ?_)
        · have := n1 rfl n' h' l' e
          walk_at "N"
          exact this
        · have := n2 rfl e
          walk_at "N"
          exact this
  · have hn : tkS s y tx h = false := by
      unfold tkS
      rw [List.getElem?_eq_none (by omega)]
    walk_at "N"
    refine use_rf (C := C) (tx := tx) (n := n) (h := h) (g := g) (l := l) (x := x) (dx := dx) (b := b) h0 (fun n' h' l' e => ?_) (fun e => ?_)
    · have := n1 hn n' h' l' e
      walk_at "N"
      exact this
    · have := n2 hn e
      walk_at "N"
      exact this
end L51
namespace L51
open PySem L2 PyProof.Rows DL
local macro_rules | `(tactic| walk_at "G") => `(tactic| ((conv => whnf); try dsimp only [DL.MB.toD, DL.cellOf]))
local macro_rules | `(tactic| walk_at "O") => `(tactic| first | assumption | omega | (refine ⟨?_, ?_⟩ <;> first | assumption | omega) | (simp only [DL.app_len]; omega) | (simp only [List.length_append, List.length_cons, List.length_nil, List.length_map]; omega))
local macro_rules | `(tactic| walk_at "P") => `(tactic| first | omega | (simp only [List.length_map]; omega))
local macro_rules | `(tactic| walk_at "R") => `(tactic| (walk_at "G"; repeat ((first | (apply DL.Rq.mk; (· walk_at "O")) | (apply DL.on_i; (· assumption)) | (apply DL.rqB.mk; (· exact DL.okR_of (by walk_at "P") (by walk_at "P"))) | (apply DL.rqB.mk; (· exact DL.okR2_of (by walk_at "P") (by walk_at "P") (by walk_at "P") (by walk_at "P")))); walk_at "G")))
local macro_rules | `(tactic| walk_at "N") => `(tactic| (walk_at "R"; repeat ((first | (refine And.intro rfl ?_) | (refine And.intro (of_decide_eq_true rfl) ?_) | (refine And.intro (by decide) ?_)); walk_at "R")))
def c_rl : Ct := fun as P => ∃ (C : List Cd) (tx : Str) (n h g : Nat) (w : JW) (t : Nat) (l : Hp51) (x dx b : Addr), as = [.adr 0 x, .val (.str w.s), .val (.int (t : Int)), .gh (rG x dx b C tx n h g l)] ∧ l.length ≤ 100000 ∧
  ∃ n' h' l', stp (.jmp w t) tx n h l = .on n' h' l' ∧ P (.val (.bool true)) [.adr 0 x, .val (.str w.s), .val (.int (t : Int)), .gh (rG x dx b C tx n' h' g l')]
theorem use_rl {C : List Cd} {tx : Str} {n h g : Nat} {w : JW} {t : Nat} {l : Hp51} {x dx b : Addr} {P : R → List Ar → Prop} {n' h' : Nat} {l' : Hp51} (h0 : l.length ≤ 100000) (h1 : stp (.jmp w t) tx n h l = .on n' h' l') (h2 : P (.val (.bool true)) [.adr 0 x, .val (.str w.s), .val (.int (t : Int)), .gh (rG x dx b C tx n' h' g l')]) : Cl c_rl [.adr 0 x, .val (.str w.s), .val (.int (t : Int)), .gh (rG x dx b C tx n h g l)] P := ⟨C, tx, n, h, g, w, t, l, x, dx, b, rfl, h0, n', h', l', h1, h2⟩
theorem w_rl (as : List Ar) (P : R → List Ar → Prop) (h : c_rl as P) : ctOf 6 (m_Run_led c_rt) as P := by
  obtain ⟨C, tx, n, h, g, w, t, l, x, dx, b, rfl, h0, n', h', l', h1, h2⟩ := h
  have sl := sizeLine_eq
  have hl := hpX_len l
  cases w with
  | split =>
    rw [stp] at h1
    cases h1
    unfold rG rF at h2 ⊢
    rw [hpX_cons] at h2
    walk_at "N"
    exact h2
  | call =>
    rw [stp] at h1
    cases h1
    unfold rG rF at h2 ⊢
    rw [hpX_cons] at h2
    walk_at "N"
    exact h2
  | commit =>
    cases l with
    | nil => cases h1
    | cons p r =>
      obtain ⟨m, o⟩ := p
      cases o with
      | none => cases h1
      | some a =>
        have h1 : SR.on t h r = SR.on n' h' l' := h1
        injection h1 with e1 e2 e3
        subst e1 e2 e3
        unfold rG rF
        walk_at "N"
        refine use_rt (C := C) (tx := tx) (n := n) (h := h) (g := g) (m := m) (o := some a) (r := r) (x := x) (dx := dx) (b := b) rfl ?_
        unfold rG rF
        walk_at "N"
        exact h2
  | back =>
    cases l with
    | nil => cases h1
    | cons p r =>
      obtain ⟨m, o⟩ := p
      cases o with
      | none => cases h1
      | some a =>
        have h1 : SR.on t a r = SR.on n' h' l' := h1
        injection h1 with e1 e2 e3
        subst e1 e2 e3
        unfold rG rF
        walk_at "N"
        refine use_rt (C := C) (tx := tx) (n := n) (h := h) (g := g) (m := m) (o := some a) (r := r) (x := x) (dx := dx) (b := b) rfl ?_
        unfold rG rF
        walk_at "N"
        exact h2
def cx_rl : CtX := fun as P => ∃ (C : List Cd) (tx : Str) (n h g : Nat) (w : JW) (t : Nat) (l : Hp51) (x dx b : Addr), as = [.adr 0 x, .val (.str w.s), .val (.int (t : Int)), .gh (rG x dx b C tx n h g l)] ∧ stp (.jmp w t) tx n h l = .ast ∧ P "Astray" [("number", .int (n : Int))]
theorem usex_rl {C : List Cd} {tx : Str} {n h g : Nat} {w : JW} {t : Nat} {l : Hp51} {x dx b : Addr} {P : Str → List (Str × D) → Prop} (h0 : stp (.jmp w t) tx n h l = .ast) (h1 : P "Astray" [("number", .int (n : Int))]) : ClX cx_rl [.adr 0 x, .val (.str w.s), .val (.int (t : Int)), .gh (rG x dx b C tx n h g l)] P := ⟨C, tx, n, h, g, w, t, l, x, dx, b, rfl, h0, h1⟩
theorem wx_rl (as : List Ar) (P : Str → List (Str × D) → Prop) (h : cx_rl as P) : ctX 6 (mx_Run_led c_rt cx_rt) as P := by
  obtain ⟨C, tx, n, h, g, w, t, l, x, dx, b, rfl, h0, hP⟩ := h
  have sl := sizeLine_eq
  have hne : w = .commit ∨ w = .back → ∀ m o r, l = (m, o) :: r → o.isSome ≠ true := fun hw m o r e z => by
    subst e
    cases o with
    | none => cases z
    | some a => rcases hw with rfl | rfl <;> cases h0
  cases w with
  | split => rw [stp] at h0; cases h0
  | call => rw [stp] at h0; cases h0
  | commit =>
    unfold rG rF
    walk_at "N"
    refine usex_rt (C := C) (tx := tx) (n := n) (h := h) (g := g) (l := l) (x := x) (dx := dx) (b := b) (hne (.inl rfl)) ?_
    walk_at "N"
    exact hP
  | back =>
    unfold rG rF
    walk_at "N"
    refine usex_rt (C := C) (tx := tx) (n := n) (h := h) (g := g) (l := l) (x := x) (dx := dx) (b := b) (hne (.inr rfl)) ?_
    walk_at "N"
    exact hP
def c_rw : Ct := fun as P => ∃ (C : List Cd) (tx : Str) (n h g : Nat) (c : Cd) (l : Hp51) (x dx b : Addr), as = [.adr 0 x, .val c.D, .gh (rG x dx b C tx n h g l)] ∧ l.length ≤ 100000 ∧ tx.length ≤ 100 ∧ stp c tx n h l ≠ .ast ∧
  (∀ n' h' l', stp c tx n h l = .on n' h' l' → P (.val (.bool true)) [.adr 0 x, .val c.D, .gh (rG x dx b C tx n' h' g l')]) ∧ (stp c tx n h l = .no → P (.val (.bool false)) [.adr 0 x, .val c.D, .gh (rG x dx b C tx n h g [])])
theorem use_rw {C : List Cd} {tx : Str} {n h g : Nat} {c : Cd} {l : Hp51} {x dx b : Addr} {P : R → List Ar → Prop} (h0 : l.length ≤ 100000) (h1 : tx.length ≤ 100) (ha : stp c tx n h l ≠ .ast) (h2 : ∀ n' h' l', stp c tx n h l = .on n' h' l' → P (.val (.bool true)) [.adr 0 x, .val c.D, .gh (rG x dx b C tx n' h' g l')]) (h3 : stp c tx n h l = .no → P (.val (.bool false)) [.adr 0 x, .val c.D, .gh (rG x dx b C tx n h g [])]) : Cl c_rw [.adr 0 x, .val c.D, .gh (rG x dx b C tx n h g l)] P := ⟨C, tx, n, h, g, c, l, x, dx, b, rfl, h0, h1, ha, h2, h3⟩
theorem w_rw (as : List Ar) (P : R → List Ar → Prop) (h : c_rw as P) : ctOf 6 (m_Run_went_on c_rs c_rl c_rt c_rf) as P := by
  obtain ⟨C, tx, n, h, g, c, l, x, dx, b, rfl, h0, h1, ha, h2, h3⟩ := h
  have sl := sizeLine_eq
  cases c with
  | sg s y =>
    cases s with
    | true =>
      walk_at "N"
      refine use_rs (C := C) (tx := tx) (n := n) (h := h) (g := g) (s := true) (y := y) (l := l) (x := x) (dx := dx) (b := b) h0 h1 (fun n' h' l' e => ?_) (fun e => ?_)
      · have := h2 n' h' l' e
        walk_at "N"
        exact this
      · have := h3 e
        walk_at "N"
        exact this
    | false =>
      walk_at "N"
      refine use_rs (C := C) (tx := tx) (n := n) (h := h) (g := g) (s := false) (y := y) (l := l) (x := x) (dx := dx) (b := b) h0 h1 (fun n' h' l' e => ?_) (fun e => ?_)
      · have := h2 n' h' l' e
        walk_at "N"
        exact this
      · have := h3 e
        walk_at "N"
        exact this
  | jmp w t =>
    have hon : ∃ n' h' l', stp (.jmp w t) tx n h l = .on n' h' l' := by
      cases hs : stp (.jmp w t) tx n h l with
      | on n' h' l' => exact ⟨n', h', l', rfl⟩
      | ast => exact absurd hs ha
      | no =>
        exfalso
        cases w with
        | split => cases hs
        | call => cases hs
        | commit =>
          cases l with
          | nil => cases hs
          | cons p r => obtain ⟨m, o⟩ := p; cases o <;> cases hs
        | back =>
          cases l with
          | nil => cases hs
          | cons p r => obtain ⟨m, o⟩ := p; cases o <;> cases hs
    obtain ⟨n', h', l', e⟩ := hon
    have hP := h2 n' h' l' e
    cases w with
    | split =>
      walk_at "N"
      refine use_rl (C := C) (tx := tx) (n := n) (h := h) (g := g) (w := .split) (t := t) (l := l) (x := x) (dx := dx) (b := b) h0 e ?_
      walk_at "N"
      exact hP
    | call =>
      walk_at "N"
      refine use_rl (C := C) (tx := tx) (n := n) (h := h) (g := g) (w := .call) (t := t) (l := l) (x := x) (dx := dx) (b := b) h0 e ?_
      walk_at "N"
      exact hP
    | commit =>
      walk_at "N"
      refine use_rl (C := C) (tx := tx) (n := n) (h := h) (g := g) (w := .commit) (t := t) (l := l) (x := x) (dx := dx) (b := b) h0 e ?_
      walk_at "N"
      exact hP
    | back =>
      walk_at "N"
      refine use_rl (C := C) (tx := tx) (n := n) (h := h) (g := g) (w := .back) (t := t) (l := l) (x := x) (dx := dx) (b := b) h0 e ?_
      walk_at "N"
      exact hP
  | ret =>
    cases l with
    | nil => exact absurd rfl ha
    | cons p r =>
      obtain ⟨m, o⟩ := p
      cases o with
      | some a => exact absurd rfl ha
      | none =>
        have hP := h2 m h r rfl
        walk_at "N"
        refine use_rt (C := C) (tx := tx) (n := n) (h := h) (g := g) (m := m) (o := none) (r := r) (x := x) (dx := dx) (b := b) rfl ?_
        unfold rG rF
        walk_at "N"
        exact hP
  | cut =>
    cases l with
    | nil => exact absurd rfl ha
    | cons p r =>
      obtain ⟨m, o⟩ := p
      cases o with
      | none => exact absurd rfl ha
      | some a =>
        walk_at "N"
        refine use_rt (C := C) (tx := tx) (n := n) (h := h) (g := g) (m := m) (o := some a) (r := r) (x := x) (dx := dx) (b := b) rfl ?_
        walk_at "N"
        refine use_rf (C := C) (tx := tx) (n := n) (h := h) (g := g) (l := r) (x := x) (dx := dx) (b := b) (by rw [List.length_cons] at h0; omega) (fun n' h' l' e => ?_) (fun e => ?_)
        · have := h2 n' h' l' e
          walk_at "N"
          exact this
        · have := h3 e
          walk_at "N"
          exact this
  | fail =>
    walk_at "N"
    refine use_rf (C := C) (tx := tx) (n := n) (h := h) (g := g) (l := l) (x := x) (dx := dx) (b := b) h0 (fun n' h' l' e => ?_) (fun e => ?_)
    · have := h2 n' h' l' e
      walk_at "N"
      exact this
    · have := h3 e
      walk_at "N"
      exact this
  | done => exact absurd rfl ha
end L51
namespace L51
open PySem L2 PyProof.Rows DL
local macro_rules | `(tactic| walk_at "G") => `(tactic| ((conv => whnf); try dsimp only [DL.MB.toD, DL.cellOf]))
local macro_rules | `(tactic| walk_at "O") => `(tactic| first | assumption | omega | (refine ⟨?_, ?_⟩ <;> first | assumption | omega) | (simp only [DL.app_len]; omega) | (simp only [List.length_append, List.length_cons, List.length_nil, List.length_map]; omega))
local macro_rules | `(tactic| walk_at "P") => `(tactic| first | omega | (simp only [List.length_map]; omega))
local macro_rules | `(tactic| walk_at "R") => `(tactic| (walk_at "G"; repeat ((first | (apply DL.Rq.mk; (· walk_at "O")) | (apply DL.on_i; (· assumption)) | (apply DL.rqB.mk; (· exact DL.okR_of (by walk_at "P") (by walk_at "P"))) | (apply DL.rqB.mk; (· exact DL.okR2_of (by walk_at "P") (by walk_at "P") (by walk_at "P") (by walk_at "P")))); walk_at "G")))
local macro_rules | `(tactic| walk_at "N") => `(tactic| (walk_at "R"; repeat ((first | (refine And.intro rfl ?_) | (refine And.intro (of_decide_eq_true rfl) ?_) | (refine And.intro (by decide) ?_)); walk_at "R")))
def cx_rw : CtX := fun as P => ∃ (C : List Cd) (tx : Str) (n h g : Nat) (c : Cd) (l : Hp51) (x dx b : Addr), as = [.adr 0 x, .val c.D, .gh (rG x dx b C tx n h g l)] ∧ c ≠ .done ∧ stp c tx n h l = .ast ∧ P "Astray" [("number", .int (n : Int))]
theorem usex_rw {C : List Cd} {tx : Str} {n h g : Nat} {c : Cd} {l : Hp51} {x dx b : Addr} {P : Str → List (Str × D) → Prop} (hd : c ≠ .done) (h0 : stp c tx n h l = .ast) (h1 : P "Astray" [("number", .int (n : Int))]) : ClX cx_rw [.adr 0 x, .val c.D, .gh (rG x dx b C tx n h g l)] P := ⟨C, tx, n, h, g, c, l, x, dx, b, rfl, hd, h0, h1⟩
theorem wx_rw (as : List Ar) (P : Str → List (Str × D) → Prop) (h : cx_rw as P) : ctX 6 (mx_Run_went_on c_rs c_rl c_rt c_rf cx_rl cx_rt) as P := by
  obtain ⟨C, tx, n, h, g, c, l, x, dx, b, rfl, hd, h0, hP⟩ := h
  have sl := sizeLine_eq
  cases c with
  | done => exact absurd rfl hd
  | fail => exact absurd h0 flS_ast
  | sg s y =>
    rw [stp] at h0
    split at h0
    · cases h0
    · exact absurd h0 flS_ast
  | jmp w t =>
    cases w with
    | split => cases h0
    | call => cases h0
    | commit =>
      walk_at "N"
      left
      walk_at "N"
      refine usex_rl (C := C) (tx := tx) (n := n) (h := h) (g := g) (w := .commit) (t := t) (l := l) (x := x) (dx := dx) (b := b) h0 ?_
      walk_at "N"
      exact hP
    | back =>
      walk_at "N"
      left
      walk_at "N"
      refine usex_rl (C := C) (tx := tx) (n := n) (h := h) (g := g) (w := .back) (t := t) (l := l) (x := x) (dx := dx) (b := b) h0 ?_
      walk_at "N"
      exact hP
  | ret =>
    have hne : ∀ m o r, l = (m, o) :: r → o.isSome ≠ false := fun m o r e z => by
      subst e
      cases o with
      | none => cases h0
      | some a => cases z
    walk_at "N"
    right
    walk_at "N"
    left
    walk_at "N"
    refine usex_rt (C := C) (tx := tx) (n := n) (h := h) (g := g) (l := l) (x := x) (dx := dx) (b := b) hne ?_
    walk_at "N"
    exact hP
  | cut =>
    have hne : ∀ m o r, l = (m, o) :: r → o.isSome ≠ true := fun m o r e z => by
      subst e
      cases o with
      | none => cases z
      | some a => exact absurd h0 flS_ast
    walk_at "N"
    right
    walk_at "N"
    right
    walk_at "N"
    refine usex_rt (C := C) (tx := tx) (n := n) (h := h) (g := g) (l := l) (x := x) (dx := dx) (b := b) hne ?_
    walk_at "N"
    exact hP
def rD51 : RR51 → D
  | .fin h g => .tuple [.int (h : Int), .int (g : Int)]
  | .non g => .tuple [.none, .int (g : Int)]
  | .ast n => .tuple [.str "astray", .int (n : Int)]
theorem flS_len : ∀ {l : Hp51} {n h n' h' : Nat} {l' : Hp51}, flS l n h = .on n' h' l' → l'.length ≤ l.length
  | [], _, _, _, _, _, e => by cases e
  | (_, some _) :: _, _, _, _, _, _, e => by cases e; exact Nat.le_succ _
  | (_, none) :: r, n, h, _, _, _, e => Nat.le_succ_of_le (flS_len (l := r) (n := n) (h := h) e)
theorem stp_len {c : Cd} {tx : Str} {n h n' h' : Nat} {l l' : Hp51} (e : stp c tx n h l = .on n' h' l') : l'.length ≤ l.length + 1 := by
  cases c with
  | done => cases e
  | fail => exact Nat.le_succ_of_le (flS_len e)
  | sg s y =>
    rw [stp] at e
    split at e
    · cases e; exact Nat.le_succ _
    · exact Nat.le_succ_of_le (flS_len e)
  | jmp w t =>
    cases w with
    | split => cases e; exact Nat.le_refl _
    | call => cases e; exact Nat.le_refl _
    | commit =>
      cases l with
      | nil => cases e
      | cons p r =>
        obtain ⟨m, o⟩ := p
        cases o with
        | none => cases e
        | some a =>
          have e : SR.on t h r = .on n' h' l' := e
          cases e
          simp only [List.length_cons]; omega
    | back =>
      cases l with
      | nil => cases e
      | cons p r =>
        obtain ⟨m, o⟩ := p
        cases o with
        | none => cases e
        | some a =>
          have e : SR.on t a r = .on n' h' l' := e
          cases e
          simp only [List.length_cons]; omega
  | ret =>
    cases l with
    | nil => cases e
    | cons p r =>
      obtain ⟨m, o⟩ := p
      cases o with
      | some a => cases e
      | none =>
        have e : SR.on m h r = .on n' h' l' := e
        cases e
        simp only [List.length_cons]; omega
  | cut =>
    cases l with
    | nil => cases e
    | cons p r =>
      obtain ⟨m, o⟩ := p
      cases o with
      | none => cases e
      | some a =>
        have := flS_len (show flS r n h = .on n' h' l' from e)
        simp only [List.length_cons]; omega
/-- what one turn of the run is -/
theorem rn_step {C : List Cd} {tx : Str} {f g n h : Nat} {l : Hp51} {z : RR51} (e : rn C tx f g n h l = some z) : ∃ f' c, f = f' + 1 ∧ C[n]? = some c ∧ ((c = .done ∧ z = .fin h (g + 1)) ∨ (c ≠ .done ∧ ((stp c tx n h l = .no ∧ z = .non (g + 1)) ∨ (stp c tx n h l = .ast ∧ z = .ast n) ∨ ∃ n' h' l', stp c tx n h l = .on n' h' l' ∧ ((C.length ≤ n' ∧ z = .ast n) ∨ (n' < C.length ∧ rn C tx f' (g + 1) n' h' l' = some z))))) := by
  cases f with
  | zero => cases e
  | succ f =>
    rw [rn] at e
    cases hc : C[n]? with
    | none => rw [hc] at e; cases e
    | some c =>
      refine ⟨f, c, rfl, rfl, ?_⟩
      rw [hc] at e
      by_cases hd : c = .done
      · subst hd
        cases e
        exact .inl ⟨rfl, rfl⟩
      · refine .inr ⟨hd, ?_⟩
        have e : (match stp c tx n h l with
          | .no => some (.non (g + 1))
          | .ast => some (.ast n)
          | .on n' h' l' => if C.length ≤ n' then some (.ast n) else rn C tx f (g + 1) n' h' l') = some z := by
          cases c <;> first | exact e | exact absurd rfl hd
        cases hs : stp c tx n h l with
        | no => rw [hs] at e; cases e; exact .inl ⟨rfl, rfl⟩
        | ast => rw [hs] at e; cases e; exact .inr (.inl ⟨rfl, rfl⟩)
        | on n' h' l' =>
          rw [hs] at e
          dsimp only at e
          refine .inr (.inr ⟨n', h', l', rfl, ?_⟩)
          split at e
          · rename_i hq
            cases e
            exact .inl ⟨hq, rfl⟩
          · rename_i hq
            exact .inr ⟨by omega, e⟩
theorem cd_sh {c : Cd} (h : CdOk c) : SeqAt.shaped c.D = true := by
  cases c with
  | sg s y => cases s <;> exact shaped_ok ⟨okS_of (by decide +kernel), h.1, trivial⟩ (by simp [Cd.D, PyData.depth, PyData.depthAll]) (by simp [Cd.D, PyData.hasDict, PyData.hasDictAll])
  | jmp w t =>
    have ht : t ≤ 10000 := h
    cases w <;> exact shaped_ok ⟨okS_of (by decide +kernel), by simp only [okD]; omega, trivial⟩ (by simp [Cd.D, PyData.depth, PyData.depthAll]) (by simp [Cd.D, PyData.hasDict, PyData.hasDictAll])
  | ret => decide +kernel
  | cut => decide +kernel
  | fail => decide +kernel
  | done => decide +kernel
theorem done_sh : SeqAt.shaped (.tuple [.str (Str.ofString "done")]) = true := by decide +kernel
theorem done_eq (c : Cd) : PyData.eqv c.D (.tuple [.str (Str.ofString "done")]) = true ↔ c = .done := by
  cases c with
  | sg s y => cases s <;> exact ⟨fun z => by simp [Cd.D, PyData.eqv, PyData.eqvAll] at z, fun z => by cases z⟩
  | jmp w t => cases w <;> exact ⟨fun z => by simp [Cd.D, PyData.eqv, PyData.eqvAll] at z, fun z => by cases z⟩
  | ret => exact ⟨fun z => absurd z (by decide +kernel), fun z => by cases z⟩
  | cut => exact ⟨fun z => absurd z (by decide +kernel), fun z => by cases z⟩
  | fail => exact ⟨fun z => absurd z (by decide +kernel), fun z => by cases z⟩
  | done => exact ⟨fun _ => rfl, fun _ => by decide +kernel⟩
def c_run : Ct := fun as P => ∃ (C : List Cd) (tx : Str) (a f : Nat) (z : RR51), as = [.val (codesD C), .val (.str tx), .val (.int (a : Int))] ∧ (∀ c ∈ C, CdOk c) ∧ C ≠ [] ∧ C.length ≤ 100 ∧ tx.length ≤ 100 ∧ f ≤ 3000 ∧ rn C tx f 0 0 a [] = some z ∧ (∀ n, z ≠ .ast n) ∧ P (.val (rD51 z)) [.val (codesD C), .val (.str tx), .val (.int (a : Int))]
theorem use_run {C : List Cd} {tx : Str} {a f : Nat} {z : RR51} {P : R → List Ar → Prop} (h1 : ∀ c ∈ C, CdOk c) (h2 : C ≠ []) (h3 : C.length ≤ 100) (h4 : tx.length ≤ 100) (h5 : f ≤ 3000) (h6 : rn C tx f 0 0 a [] = some z) (h7 : ∀ n, z ≠ .ast n) (h : P (.val (rD51 z)) [.val (codesD C), .val (.str tx), .val (.int (a : Int))]) : Cl c_run [.val (codesD C), .val (.str tx), .val (.int (a : Int))] P := ⟨C, tx, a, f, z, rfl, h1, h2, h3, h4, h5, h6, h7, h⟩
theorem w_run (as : List Ar) (P : R → List Ar → Prop) (h : c_run as P) : ctOf 6 (m_run c_ri c_rw) as P := by
  obtain ⟨C, tx, a, f, z, rfl, hC, hne, hCl, htx, hf, hz, hna, hP⟩ := h
  have sl := sizeLine_eq
  have hemp : (C.map Cd.D).isEmpty = false := by
    cases C with
    | nil => exact absurd rfl hne
    | cons c C => rfl
  have hml : (C.map Cd.D).length = C.length := List.length_map _
  have hpos : 0 < C.length := List.length_pos_iff.mpr hne
  walk_at "N"
  intro x dx
  walk_at "N"
  refine ⟨C, tx, a, x, dx, rfl, fun b => ?_⟩
  unfold rG rF
  walk_at "N"
  rw [hemp]
  walk_at "N"
  refine ⟨fun m ρ => ∃ (g n h : Nat) (l : Hp51) (s4 : Option Ce), rn C tx m g n h l = some z ∧ l.length ≤ g ∧ g + m ≤ 3000 ∧ n < C.length ∧ ρ = [some (.val (codesD C)), some (.val (.str tx)), some (.val (.int (a : Int))), some (.adr 0 x), s4, some (.gh (rG x dx b C tx n h g l))], ⟨f, 0, 0, a, [], none, hz, Nat.le_refl _, by omega, hpos, rfl⟩, ?_⟩
  rintro m ρ ⟨g, n, h, l, s4, e1, e2, e3, e4, rfl⟩
  obtain ⟨m, c, rfl, hc, hcase⟩ := rn_step e1
  have hci : atI (C.map Cd.D) (n : Int) = some c.D := at_nat (by rw [List.getElem?_map, hc]; rfl)
  have hok := hC c (List.mem_of_getElem? hc)
  have hsh := cd_sh hok
  have hl5 : l.length ≤ 100000 := by omega
  obtain ⟨xs, hxs⟩ : ∃ xs, c.D = .tuple xs := by
    cases c with
    | sg s y => cases s <;> exact ⟨_, rfl⟩
    | jmp w t => exact ⟨_, rfl⟩
    | ret => exact ⟨_, rfl⟩
    | cut => exact ⟨_, rfl⟩
    | fail => exact ⟨_, rfl⟩
    | done => exact ⟨_, rfl⟩
  have heq := done_eq c
  have hsc : (scalD c.D (.tuple [.str (Str.ofString "done")]) || (SeqAt.shaped c.D && SeqAt.shaped (.tuple [.str (Str.ofString "done")]))) = true := by rw [hsh, done_sh, Bool.and_self, Bool.or_true]
  rw [hxs] at hci heq hsc
  unfold rG rF
  walk_at "N"
  apply rqB.mk hsc
  rcases hcase with ⟨hd, hzz⟩ | ⟨hd, hcase⟩
  · rw [heq.mpr hd]
    subst hzz
    walk_at "N"
    exact hP
  · have hfa : PyData.eqv (.tuple xs) (.tuple [.str (Str.ofString "done")]) = false := by
      cases hq : PyData.eqv (.tuple xs) (.tuple [.str (Str.ofString "done")]) with
      | false => rfl
      | true => exact absurd (heq.mp hq) hd
    rw [hfa]
    walk_at "N"
    rw [← hxs]
    have UW := fun (P : R → List Ar → Prop) => use_rw (C := C) (tx := tx) (n := n) (h := h) (g := g + 1) (c := c) (l := l) (x := x) (dx := dx) (b := b) (P := P) hl5 htx
    rcases hcase with ⟨hs, hzz⟩ | ⟨hs, hzz⟩ | ⟨n', h', l', hs, hq⟩
    · refine UW _ (by rw [hs]; exact fun q => by cases q) (fun _ _ _ e => by rw [hs] at e; cases e) (fun _ => ?_)
      subst hzz
      unfold rG rF
      walk_at "N"
      exact hP
    · exact absurd hzz (hna n)
    · rcases hq with ⟨_, hzz⟩ | ⟨hlt, hq⟩
      · exact absurd hzz (hna n)
      · have hll := stp_len hs
        refine UW _ (by rw [hs]; exact fun q => by cases q) (fun n2 h2 l2 e => ?_) (fun e => by rw [hs] at e; cases e)
        rw [hs] at e
        cases e
        unfold rG rF
        walk_at "N"
        rw [show decide ((C.map Cd.D).length ≤ (n' : Int)) = false from decide_eq_false (by rw [hml]; omega)]
        walk_at "N"
        exact ⟨m, Nat.lt_succ_self _, g + 1, n', h', l', _, hq, by omega, by omega, hlt, rfl⟩
end L51
namespace L51
open PySem L2 PyProof.Rows DL
local macro_rules | `(tactic| walk_at "G") => `(tactic| ((conv => whnf); try dsimp only [DL.MB.toD, DL.cellOf]))
local macro_rules | `(tactic| walk_at "O") => `(tactic| first | assumption | omega | (refine ⟨?_, ?_⟩ <;> first | assumption | omega) | (simp only [DL.app_len]; omega) | (simp only [List.length_append, List.length_cons, List.length_nil, List.length_map]; omega))
local macro_rules | `(tactic| walk_at "P") => `(tactic| first | omega | (simp only [List.length_map]; omega))
local macro_rules | `(tactic| walk_at "R") => `(tactic| (walk_at "G"; repeat ((first | (apply DL.Rq.mk; (· walk_at "O")) | (apply DL.on_i; (· assumption)) | (apply DL.rqB.mk; (· exact DL.okR_of (by walk_at "P") (by walk_at "P"))) | (apply DL.rqB.mk; (· exact DL.okR2_of (by walk_at "P") (by walk_at "P") (by walk_at "P") (by walk_at "P")))); walk_at "G")))
local macro_rules | `(tactic| walk_at "N") => `(tactic| (walk_at "R"; repeat ((first | (refine And.intro rfl ?_) | (refine And.intro (of_decide_eq_true rfl) ?_) | (refine And.intro (by decide) ?_)); walk_at "R")))
def cx_run : CtX := fun as P => ∃ (C : List Cd) (tx : Str) (a f n0 : Nat), as = [.val (codesD C), .val (.str tx), .val (.int (a : Int))] ∧ (∀ c ∈ C, CdOk c) ∧ C ≠ [] ∧ C.length ≤ 100 ∧ tx.length ≤ 100 ∧ f ≤ 3000 ∧ rn C tx f 0 0 a [] = some (.ast n0) ∧ P "Astray" [("number", .int (n0 : Int))]
theorem usex_run {C : List Cd} {tx : Str} {a f n0 : Nat} {P : Str → List (Str × D) → Prop} (h1 : ∀ c ∈ C, CdOk c) (h2 : C ≠ []) (h3 : C.length ≤ 100) (h4 : tx.length ≤ 100) (h5 : f ≤ 3000) (h6 : rn C tx f 0 0 a [] = some (.ast n0)) (h : P "Astray" [("number", .int (n0 : Int))]) : ClX cx_run [.val (codesD C), .val (.str tx), .val (.int (a : Int))] P := ⟨C, tx, a, f, n0, rfl, h1, h2, h3, h4, h5, h6, h⟩
theorem wx_run (as : List Ar) (P : Str → List (Str × D) → Prop) (h : cx_run as P) : ctX 6 (mx_run c_ri c_rw cx_rw) as P := by
  obtain ⟨C, tx, a, f, n0, rfl, hC, hne, hCl, htx, hf, hz, hP⟩ := h
  have sl := sizeLine_eq
  have hemp : (C.map Cd.D).isEmpty = false := by
    cases C with
    | nil => exact absurd rfl hne
    | cons c C => rfl
  have hml : (C.map Cd.D).length = C.length := List.length_map _
  have hpos : 0 < C.length := List.length_pos_iff.mpr hne
  walk_at "N"
  intro x dx
  walk_at "N"
  refine ⟨C, tx, a, x, dx, rfl, fun b => ?_⟩
  unfold rG rF
  walk_at "N"
  right
  walk_at "N"
  rw [hemp]
  walk_at "N"
  refine ⟨fun m ρ => ∃ (g n h : Nat) (l : Hp51) (s4 : Option Ce), rn C tx m g n h l = some (.ast n0) ∧ l.length ≤ g ∧ g + m ≤ 3000 ∧ n < C.length ∧ ρ = [some (.val (codesD C)), some (.val (.str tx)), some (.val (.int (a : Int))), some (.adr 0 x), s4, some (.gh (rG x dx b C tx n h g l))], ⟨f, 0, 0, a, [], none, hz, Nat.le_refl _, by omega, hpos, rfl⟩, ?_⟩
  rintro m ρ ⟨g, n, h, l, s4, e1, e2, e3, e4, rfl⟩
  obtain ⟨m, c, rfl, hc, hcase⟩ := rn_step e1
  have hci : atI (C.map Cd.D) (n : Int) = some c.D := at_nat (by rw [List.getElem?_map, hc]; rfl)
  have hok := hC c (List.mem_of_getElem? hc)
  have hsh := cd_sh hok
  have hl5 : l.length ≤ 100000 := by omega
  obtain ⟨xs, hxs⟩ : ∃ xs, c.D = .tuple xs := by
    cases c with
    | sg s y => cases s <;> exact ⟨_, rfl⟩
    | jmp w t => exact ⟨_, rfl⟩
    | ret => exact ⟨_, rfl⟩
    | cut => exact ⟨_, rfl⟩
    | fail => exact ⟨_, rfl⟩
    | done => exact ⟨_, rfl⟩
  have heq := done_eq c
  have hsc : (scalD c.D (.tuple [.str (Str.ofString "done")]) || (SeqAt.shaped c.D && SeqAt.shaped (.tuple [.str (Str.ofString "done")]))) = true := by rw [hsh, done_sh, Bool.and_self, Bool.or_true]
  rw [hxs] at hci heq hsc
  rcases hcase with ⟨hd, hzz⟩ | ⟨hd, hcase⟩
  · cases hzz
  have hfa : PyData.eqv (.tuple xs) (.tuple [.str (Str.ofString "done")]) = false := by
    cases hq : PyData.eqv (.tuple xs) (.tuple [.str (Str.ofString "done")]) with
    | false => rfl
    | true => exact absurd (heq.mp hq) hd
  have UW := fun (P : R → List Ar → Prop) => use_rw (C := C) (tx := tx) (n := n) (h := h) (g := g + 1) (c := c) (l := l) (x := x) (dx := dx) (b := b) (P := P) hl5 htx
  rcases hcase with ⟨hs, hzz⟩ | ⟨hs, hzz⟩ | ⟨n', h', l', hs, hq⟩
  · cases hzz
  · cases hzz
    unfold rG rF
    walk_at "N"
    left
    walk_at "N"
    apply rqB.mk hsc
    rw [hfa]
    walk_at "N"
    left
    walk_at "N"
    rw [← hxs]
    refine usex_rw (C := C) (tx := tx) (n := n0) (h := h) (g := g + 1) (c := c) (l := l) (x := x) (dx := dx) (b := b) hd hs ?_
    walk_at "N"
    exact hP
  · have hll := stp_len hs
    rcases hq with ⟨hge, hzz⟩ | ⟨hlt, hq⟩
    · cases hzz
      unfold rG rF
      walk_at "N"
      left
      walk_at "N"
      apply rqB.mk hsc
      rw [hfa]
      walk_at "N"
      right
      walk_at "N"
      rw [← hxs]
      refine UW _ (by rw [hs]; exact fun q => by cases q) (fun n2 h2 l2 e => ?_) (fun e => by rw [hs] at e; cases e)
      rw [hs] at e
      cases e
      unfold rG rF
      walk_at "N"
      first
        | exact hP
        | (rw [show decide ((C.map Cd.D).length ≤ (n' : Int)) = true from decide_eq_true (by rw [hml]; omega)]; walk_at "N"; exact hP)
    · unfold rG rF
      walk_at "N"
      right
      walk_at "N"
      apply rqB.mk hsc
      rw [hfa]
      walk_at "N"
      rw [← hxs]
      refine UW _ (by rw [hs]; exact fun q => by cases q) (fun n2 h2 l2 e => ?_) (fun e => by rw [hs] at e; cases e)
      rw [hs] at e
      cases e
      unfold rG rF
      walk_at "N"
      rw [show decide ((C.map Cd.D).length ≤ (n' : Int)) = false from decide_eq_false (by rw [hml]; omega)]
      walk_at "N"
      exact ⟨m, Nat.lt_succ_self _, g + 1, n', h', l', _, hq, by omega, by omega, hlt, rfl⟩
end L51
namespace L51
open PySem L2 PyProof.Rows DL
local macro_rules | `(tactic| walk_at "G") => `(tactic| ((conv => whnf); try dsimp only [DL.MB.toD, DL.cellOf]))
local macro_rules | `(tactic| walk_at "O") => `(tactic| first | assumption | omega | (refine ⟨?_, ?_⟩ <;> first | assumption | omega) | (simp only [DL.app_len]; omega) | (simp only [List.length_append, List.length_cons, List.length_nil, List.length_map]; omega))
local macro_rules | `(tactic| walk_at "P") => `(tactic| first | omega | (simp only [List.length_map]; omega))
local macro_rules | `(tactic| walk_at "R") => `(tactic| (walk_at "G"; repeat ((first | (apply DL.Rq.mk; (· walk_at "O")) | (apply DL.on_i; (· assumption)) | (apply DL.rqB.mk; (· exact DL.okR_of (by walk_at "P") (by walk_at "P"))) | (apply DL.rqB.mk; (· exact DL.okR2_of (by walk_at "P") (by walk_at "P") (by walk_at "P") (by walk_at "P")))); walk_at "G")))
local macro_rules | `(tactic| walk_at "N") => `(tactic| (walk_at "R"; repeat ((first | (refine And.intro rfl ?_) | (refine And.intro (of_decide_eq_true rfl) ?_) | (refine And.intro (by decide) ?_)); walk_at "R")))
def mlD (p : Nat × Option Nat) : D := match p.2 with
  | some a => .tuple [.int (p.1 : Int), .int (a : Int)]
  | none => .tuple [.int (p.1 : Int)]
def mlX (l : Hp51) : List X1 := (l.map fun p => X1.val (mlD p)).reverse
theorem mlX_cons (p : Nat × Option Nat) (l : Hp51) : mlX (p :: l) = mlX l ++ [X1.val (mlD p)] := by
  unfold mlX
  rw [List.map_cons, List.reverse_cons]
theorem mlX_len (l : Hp51) : (mlX l).length = l.length := by
  unfold mlX
  rw [List.length_reverse, List.length_map]
def mK (tx : Str) (n h : Nat) (p : Addr) : List (D × X1) := [(.str "now", .val (.int (n : Int))), (.str "at", .val (.int (h : Int))), (.str "pile", .adr 0 p), (.str "text", .val (.str tx))]
def lG (p a : Addr) (tx : Str) (n h : Nat) (l : Hp51) : Gh := [(p, .lst (mlX l)), (a, .dK (mK tx n h p))]
def c_lf : Ct := fun as P => ∃ (tx : Str) (n h : Nat) (l : Hp51) (p a : Addr), as = [.adr 1 a, .gh (lG p a tx n h l)] ∧ l.length ≤ 100000 ∧
  (∀ n' h' l', flS l n h = .on n' h' l' → P (.val (.bool true)) [.adr 1 a, .gh (lG p a tx n' h' l')]) ∧ (flS l n h = .no → P (.val (.bool false)) [.adr 1 a, .gh (lG p a tx n h [])])
theorem use_lf {tx : Str} {n h : Nat} {l : Hp51} {p a : Addr} {P : R → List Ar → Prop} (h0 : l.length ≤ 100000) (h1 : ∀ n' h' l', flS l n h = .on n' h' l' → P (.val (.bool true)) [.adr 1 a, .gh (lG p a tx n' h' l')]) (h2 : flS l n h = .no → P (.val (.bool false)) [.adr 1 a, .gh (lG p a tx n h [])]) : Cl c_lf [.adr 1 a, .gh (lG p a tx n h l)] P := ⟨tx, n, h, l, p, a, rfl, h0, h1, h2⟩
theorem w_lf (as : List Ar) (P : R → List Ar → Prop) (h : c_lf as P) : ctOf 3 m__law_failed as P := by
  obtain ⟨tx, n, h, l, p, a, rfl, hl, h1, h2⟩ := h
  have sl := sizeLine_eq
  unfold lG mK
  walk_at "N"
  refine ⟨fun m ρ => ∃ (l' : Hp51) (s2 : Option Ce), flS l' n h = flS l n h ∧ m = l'.length ∧ ρ = [some (.adr 1 a), some (.gh (lG p a tx n h l')), s2], ⟨_, l, none, rfl, rfl, rfl⟩, ?_⟩
  rintro m ρ ⟨l', s2, e, rfl, rfl⟩
  cases l' with
  | nil =>
    unfold lG mK
    walk_at "N"
    exact h2 e.symm
  | cons q r =>
    obtain ⟨k, o⟩ := q
    unfold lG mK
    rw [mlX_cons]
    walk_at "N"
    rw [emp_a]
    walk_at "N"
    rw [lst_a]
    walk_at "N"
    rw [drp_a]
    cases o with
    | some b =>
      walk_at "N"
      exact h1 k b r e.symm
    | none =>
      walk_at "N"
      exact ⟨r.length, Nat.lt_succ_self _, r, _, e, rfl, rfl⟩
theorem cut1 {tx : Str} {h c : Nat} (e : tx.cps.toList[h]? = some c) : cutS tx (some (h : Int)) (some ((h : Int) + 1)) = (⟨#[c]⟩ : Str) := DL.str_ext (by
  rw [show ((h : Int) + 1) = ((h + 1 : Nat) : Int) from rfl, cutS_lohi, show h + 1 - h = 1 by omega, List.take_one, List.head?_drop, e]
  rfl)
theorem cut0 {tx : Str} {h : Nat} (e : tx.cps.toList[h]? = none) : cutS tx (some (h : Int)) (some ((h : Int) + 1)) = Str.ofString "" := DL.str_ext (by
  rw [show ((h : Int) + 1) = ((h + 1 : Nat) : Int) from rfl, cutS_lohi, show h + 1 - h = 1 by omega, List.take_one, List.head?_drop, e]
  rfl)
theorem one_ne (c : Nat) : decide ((⟨#[c]⟩ : Str) = Str.ofString "") = false := decide_eq_false fun z => by
  have := congrArg (fun s : Str => s.cps.size) z
  cases this
def c_lg : Ct := fun as P => ∃ (tx : Str) (n h : Nat) (c : Cd) (l : Hp51) (p a : Addr), as = [.adr 1 a, .val c.D, .gh (lG p a tx n h l)] ∧ l.length ≤ 100000 ∧ tx.length ≤ 100 ∧ c ≠ .done ∧
  (∀ n' h' l', stp c tx n h l = .on n' h' l' → P (.val (.str "on")) [.adr 1 a, .val c.D, .gh (lG p a tx n' h' l')]) ∧ (stp c tx n h l = .no → P (.val (.str "none")) [.adr 1 a, .val c.D, .gh (lG p a tx n h [])]) ∧ (stp c tx n h l = .ast → P (.val (.str "astray")) [.adr 1 a, .val c.D, .gh (lG p a tx n h l)])
theorem use_lg {tx : Str} {n h : Nat} {c : Cd} {l : Hp51} {p a : Addr} {P : R → List Ar → Prop} (h0 : l.length ≤ 100000) (ht : tx.length ≤ 100) (hd : c ≠ .done)
  (h1 : ∀ n' h' l', stp c tx n h l = .on n' h' l' → P (.val (.str "on")) [.adr 1 a, .val c.D, .gh (lG p a tx n' h' l')]) (h2 : stp c tx n h l = .no → P (.val (.str "none")) [.adr 1 a, .val c.D, .gh (lG p a tx n h [])]) (h3 : stp c tx n h l = .ast → P (.val (.str "astray")) [.adr 1 a, .val c.D, .gh (lG p a tx n h l)]) : Cl c_lg [.adr 1 a, .val c.D, .gh (lG p a tx n h l)] P := ⟨tx, n, h, c, l, p, a, rfl, h0, ht, hd, h1, h2, h3⟩
theorem w_lg (as : List Ar) (P : R → List Ar → Prop) (h : c_lg as P) : ctOf 7 (m__law_gone_on c_lf) as P := by
  obtain ⟨tx, n, h, c, l, p, a, rfl, h0, ht, hd, h1, h2, h3⟩ := h
  have sl := sizeLine_eq
  have fl : tx.cps.toList.length = tx.length := Array.length_toList
  have hml := mlX_len l
  cases c with
  | done => exact absurd rfl hd
  | fail =>
    unfold lG mK
    walk_at "N"
    refine use_lf (tx := tx) (n := n) (h := h) (l := l) (p := p) (a := a) h0 (fun n' h' l' e => ?_) (fun e => ?_)
    · have := h1 n' h' l' e
      walk_at "N"
      exact this
    · have := h2 e
      walk_at "N"
      exact this
  | cut =>
    cases l with
    | nil =>
      have := h3 rfl
      unfold lG mK at this ⊢
      walk_at "N"
      exact this
    | cons q r =>
      obtain ⟨m, o⟩ := q
      cases o with
      | none =>
        have := h3 rfl
        unfold lG mK at this ⊢
        rw [mlX_cons] at this ⊢
        walk_at "N"
        rw [emp_a]
        walk_at "N"
        rw [ng_a]
        walk_at "N"
        exact this
      | some b =>
        unfold lG mK
        rw [mlX_cons]
        walk_at "N"
        rw [emp_a]
        walk_at "N"
        rw [ng_a]
        walk_at "N"
        rw [lst_a]
        walk_at "N"
        rw [drp_a]
        refine use_lf (tx := tx) (n := n) (h := h) (l := r) (p := p) (a := a) (by rw [List.length_cons] at h0; omega) (fun n' h' l' e => ?_) (fun e => ?_)
        · have := h1 n' h' l' e
          walk_at "N"
          exact this
        · have := h2 e
          walk_at "N"
          exact this
  | ret =>
    cases l with
    | nil =>
      have := h3 rfl
      unfold lG mK at this ⊢
      walk_at "N"
      exact this
    | cons q r =>
      obtain ⟨m, o⟩ := q
      cases o with
      | some b =>
        have := h3 rfl
        unfold lG mK at this ⊢
        rw [mlX_cons] at this ⊢
        walk_at "N"
        rw [emp_a]
        walk_at "N"
        rw [ng_a]
        walk_at "N"
        exact this
      | none =>
        have := h1 m h r rfl
        unfold lG mK at this ⊢
        rw [mlX_cons]
        walk_at "N"
        rw [emp_a]
        walk_at "N"
        rw [ng_a]
        walk_at "N"
        rw [lst_a]
        walk_at "N"
        rw [drp_a]
        exact this
  | jmp w t =>
    cases w with
    | split =>
      have := h1 _ _ _ rfl
      unfold lG mK at this ⊢
      rw [mlX_cons] at this
      walk_at "N"
      exact this
    | call =>
      have := h1 _ _ _ rfl
      unfold lG mK at this ⊢
      rw [mlX_cons] at this
      walk_at "N"
      exact this
    | commit =>
      cases l with
      | nil =>
        have := h3 rfl
        unfold lG mK at this ⊢
        walk_at "N"
        exact this
      | cons q r =>
        obtain ⟨m, o⟩ := q
        cases o with
        | none =>
          have := h3 rfl
          unfold lG mK at this ⊢
          rw [mlX_cons] at this ⊢
          walk_at "N"
          rw [emp_a]
          walk_at "N"
          rw [ng_a]
          walk_at "N"
          exact this
        | some b =>
          have := h1 t h r rfl
          unfold lG mK at this ⊢
          rw [mlX_cons]
          walk_at "N"
          rw [emp_a]
          walk_at "N"
          rw [ng_a]
          walk_at "N"
          rw [lst_a]
          walk_at "N"
          rw [drp_a]
          exact this
    | back =>
      cases l with
      | nil =>
        have := h3 rfl
        unfold lG mK at this ⊢
        walk_at "N"
        exact this
      | cons q r =>
        obtain ⟨m, o⟩ := q
        cases o with
        | none =>
          have := h3 rfl
          unfold lG mK at this ⊢
          rw [mlX_cons] at this ⊢
          walk_at "N"
          rw [emp_a]
          walk_at "N"
          rw [ng_a]
          walk_at "N"
          exact this
        | some b =>
          have := h1 t b r rfl
          unfold lG mK at this ⊢
          rw [mlX_cons]
          walk_at "N"
          rw [emp_a]
          walk_at "N"
          rw [ng_a]
          walk_at "N"
          rw [lst_a]
          walk_at "N"
          rw [drp_a]
          exact this
  | sg s y =>
    have n1 : tkS s y tx h = false → ∀ n' h' l', flS l n h = .on n' h' l' → stp (.sg s y) tx n h l = .on n' h' l' := fun z n' h' l' e => by rw [stp, if_neg (by rw [z]; simp)]; exact e
    have n2 : tkS s y tx h = false → flS l n h = .no → stp (.sg s y) tx n h l = .no := fun z e => by rw [stp, if_neg (by rw [z]; simp)]; exact e
    have y1 : tkS s y tx h = true → P (.val (.str "on")) [.adr 1 a, .val (Cd.sg s y).D, .gh (lG p a tx (n + 1) (h + 1) l)] := fun z => h1 _ _ _ (by rw [stp, if_pos z])
    cases hc : tx.cps.toList[h]? with
    | none =>
      have ht : tkS s y tx h = false := by unfold tkS; rw [hc]
      have ec := cut0 hc
      cases s with
      | true =>
        unfold lG mK
        walk_at "N"
        rw [ec]
        walk_at "N"
        refine use_lf (tx := tx) (n := n) (h := h) (l := l) (p := p) (a := a) h0 (fun n' h' l' e => ?_) (fun e => ?_)
        · have := h1 n' h' l' (n1 ht n' h' l' e)
          walk_at "N"
          exact this
        · have := h2 (n2 ht e)
          walk_at "N"
          exact this
      | false =>
        unfold lG mK
        walk_at "N"
        rw [ec]
        walk_at "N"
        refine use_lf (tx := tx) (n := n) (h := h) (l := l) (p := p) (a := a) h0 (fun n' h' l' e => ?_) (fun e => ?_)
        · have := h1 n' h' l' (n1 ht n' h' l' e)
          walk_at "N"
          exact this
        · have := h2 (n2 ht e)
          walk_at "N"
          exact this
    | some d =>
      have ht : tkS s y tx h = (strIn ⟨#[d]⟩ y == s) := by unfold tkS; rw [hc]
      rw [ht] at n1 n2 y1
      have ec := cut1 hc
      have on := one_ne d
      cases s with
      | true =>
        unfold lG mK at y1 ⊢
        walk_at "N"
        rw [ec, on]
        walk_at "N"
        cases hb : strIn ⟨#[d]⟩ y with
        | true =>
          rw [hb] at y1
          walk_at "N"
          exact y1 rfl
        | false =>
          rw [hb] at n1 n2
          walk_at "N"
          refine use_lf (tx := tx) (n := n) (h := h) (l := l) (p := p) (a := a) h0 (fun n' h' l' e => ?_) (fun e => ?_)
          · have := h1 n' h' l' (n1 rfl n' h' l' e)
            walk_at "N"
            exact this
          · have := h2 (n2 rfl e)
            walk_at "N"
            exact this
      | false =>
        unfold lG mK at y1 ⊢
        walk_at "N"
        rw [ec, on]
        walk_at "N"
        cases hb : strIn ⟨#[d]⟩ y with
        | false =>
          rw [hb] at y1
          walk_at "N"
          exact y1 rfl
        | true =>
          rw [hb] at n1 n2
          walk_at "N"
          refine use_lf (tx := tx) (n := n) (h := h) (l := l) (p := p) (a := a) h0 (fun n' h' l' e => ?_) (fun e => ?_)
          · have := h1 n' h' l' (n1 rfl n' h' l' e)
            walk_at "N"
            exact this
          · have := h2 (n2 rfl e)
            walk_at "N"
            exact this
end L51
namespace L51
open PySem L2 PyProof.Rows DL
local macro_rules | `(tactic| walk_at "G") => `(tactic| ((conv => whnf); try dsimp only [DL.MB.toD, DL.cellOf]))
local macro_rules | `(tactic| walk_at "O") => `(tactic| first | assumption | omega | (refine ⟨?_, ?_⟩ <;> first | assumption | omega) | (simp only [DL.app_len]; omega) | (simp only [List.length_append, List.length_cons, List.length_nil, List.length_map]; omega))
local macro_rules | `(tactic| walk_at "P") => `(tactic| first | omega | (simp only [List.length_map]; omega))
local macro_rules | `(tactic| walk_at "R") => `(tactic| (walk_at "G"; repeat ((first | (apply DL.Rq.mk; (· walk_at "O")) | (apply DL.on_i; (· assumption)) | (apply DL.rqB.mk; (· exact DL.okR_of (by walk_at "P") (by walk_at "P"))) | (apply DL.rqB.mk; (· exact DL.okR2_of (by walk_at "P") (by walk_at "P") (by walk_at "P") (by walk_at "P")))); walk_at "G")))
local macro_rules | `(tactic| walk_at "N") => `(tactic| (walk_at "R"; repeat ((first | (refine And.intro rfl ?_) | (refine And.intro (of_decide_eq_true rfl) ?_) | (refine And.intro (by decide) ?_)); walk_at "R")))
def oR51 : Option RR51 → D
  | none => .none
  | some z => rD51 z
def c_lr : Ct := fun as P => ∃ (C : List Cd) (tx : Str) (a : Nat), as = [.val (codesD C), .val (.str tx), .val (.int (a : Int)), .val (.int 3000)] ∧ (∀ c ∈ C, CdOk c) ∧ C ≠ [] ∧ C.length ≤ 100 ∧ tx.length ≤ 100 ∧ P (.val (oR51 (rn C tx 3000 0 0 a []))) [.val (codesD C), .val (.str tx), .val (.int (a : Int)), .val (.int 3000)]
theorem use_lr {C : List Cd} {tx : Str} {a : Nat} {P : R → List Ar → Prop} (h1 : ∀ c ∈ C, CdOk c) (h2 : C ≠ []) (h3 : C.length ≤ 100) (h4 : tx.length ≤ 100) (h : P (.val (oR51 (rn C tx 3000 0 0 a []))) [.val (codesD C), .val (.str tx), .val (.int (a : Int)), .val (.int 3000)]) : Cl c_lr [.val (codesD C), .val (.str tx), .val (.int (a : Int)), .val (.int 3000)] P := ⟨C, tx, a, rfl, h1, h2, h3, h4, h⟩
/-- the word of a code -/
theorem cd_wd (c : Cd) : ∃ w tl, c.D = .tuple (.str w :: tl) ∧ (w = Str.ofString "done" ↔ c = .done) := by
  cases c with
  | sg s y => cases s <;> exact ⟨_, _, rfl, fun z => absurd z (by decide), fun z => by cases z⟩
  | jmp w t => cases w <;> exact ⟨_, _, rfl, fun z => absurd z (by decide), fun z => by cases z⟩
  | ret => exact ⟨_, _, rfl, fun z => absurd z (by decide), fun z => by cases z⟩
  | cut => exact ⟨_, _, rfl, fun z => absurd z (by decide), fun z => by cases z⟩
  | fail => exact ⟨_, _, rfl, fun z => absurd z (by decide), fun z => by cases z⟩
  | done => exact ⟨_, _, rfl, fun _ => rfl, fun _ => rfl⟩
theorem w_lr (as : List Ar) (P : R → List Ar → Prop) (h : c_lr as P) : ctOf 9 (m__law_run c_lg) as P := by
  obtain ⟨C, tx, a, rfl, hC, hne, hCl, htx, hP⟩ := h
  have sl := sizeLine_eq
  have hml : (C.map Cd.D).length = C.length := List.length_map _
  have hpos : 0 < C.length := List.length_pos_iff.mpr hne
  generalize hz : rn C tx 3000 0 0 a [] = z at hP
  walk_at "N"
  intro p
  walk_at "N"
  intro q
  walk_at "N"
  refine lp_by (fun ds ρ => ∃ (k n h : Nat) (l : Hp51) (s5 s6 s7 : Option Ce), ds = rangeD (k : Int) ds.length ∧ rn C tx ds.length k n h l = z ∧ l.length ≤ k ∧ k + ds.length = 3000 ∧ n < C.length ∧ ρ = [some (.val (codesD C)), some (.val (.str tx)), some (.val (.int (a : Int))), some (.val (.int 3000)), some (.adr 1 q), s5, s6, s7, some (.gh (lG p q tx n h l))]) ?_ ?_ ?_
  · refine ⟨0, 0, a, [], none, none, none, ?_, ?_, Nat.le_refl _, ?_, hpos, rfl⟩
    · rw [range_len]; rfl
    · rw [range_len]; exact hz
    · rw [range_len]; rfl
  · rintro d ds ρ ⟨k, n, h, l, s5, s6, s7, e1, e2, e3, e4, e5, rfl⟩ ih
    rw [List.length_cons] at e1 e2 e4
    rw [range_cons, List.cons.injEq] at e1
    obtain ⟨rfl, e1⟩ := e1
    obtain ⟨c, hc⟩ : ∃ c, C[n]? = some c := ⟨_, List.getElem?_eq_getElem e5⟩
    obtain ⟨w, tl, hw, hwd⟩ := cd_wd c
    have hci : atI (C.map Cd.D) (n : Int) = some (.tuple (.str w :: tl)) := at_nat (by rw [List.getElem?_map, hc, ← hw]; rfl)
    have a0 : atI (PyData.str w :: tl) 0 = some (.str w) := at_0 _ _
    have hl5 : l.length ≤ 100000 := by omega
    rw [rn, hc] at e2
    unfold lG mK
    walk_at "N"
    by_cases hd : c = .done
    · rw [decide_eq_true (hwd.mpr hd)]
      subst hd
      have e2 : some (RR51.fin h (k + 1)) = z := e2
      subst e2
      walk_at "N"
      exact hP
    · rw [decide_eq_false fun q => hd (hwd.mp q)]
      have e2 : (match stp c tx n h l with
          | .no => some (.non (k + 1))
          | .ast => some (.ast n)
          | .on n' h' l' => if C.length ≤ n' then some (.ast n) else rn C tx ds.length (k + 1) n' h' l') = z := by
        cases c <;> first | exact e2 | exact absurd rfl hd
      walk_at "N"
      rw [← hw]
      refine use_lg (tx := tx) (n := n) (h := h) (c := c) (l := l) (p := p) (a := q) hl5 htx hd (fun n' h' l' e => ?_) (fun e => ?_) (fun e => ?_)
      · rw [e] at e2
        have hll := stp_len e
        unfold lG mK
        dsimp only at e2
        by_cases hge : C.length ≤ n'
        · rw [if_pos hge] at e2
          subst e2
          walk_at "N"
          rw [show decide ((C.map Cd.D).length ≤ (n' : Int)) = true from decide_eq_true (by rw [hml]; omega)]
          walk_at "N"
          exact hP
        · rw [if_neg hge] at e2
          walk_at "N"
          rw [show decide ((C.map Cd.D).length ≤ (n' : Int)) = false from decide_eq_false (by rw [hml]; omega)]
          walk_at "N"
          exact ih _ ⟨k + 1, n', h', l', _, _, _, e1, e2, by omega, by omega, by omega, rfl⟩
      · rw [e] at e2
        subst e2
        unfold lG mK
        walk_at "N"
        exact hP
      · rw [e] at e2
        subst e2
        unfold lG mK
        walk_at "N"
        exact hP
  · rintro ρ ⟨k, n, h, l, s5, s6, s7, e1, e2, e3, e4, e5, rfl⟩
    rw [List.length_nil, rn] at e2
    subst e2
    walk_at "N"
    exact hP
end L51
namespace L51
open PySem L2 PyProof.Rows DL
local macro_rules | `(tactic| walk_at "G") => `(tactic| ((conv => whnf); try dsimp only [DL.MB.toD, DL.cellOf]))
local macro_rules | `(tactic| walk_at "O") => `(tactic| first | assumption | omega | (refine ⟨?_, ?_⟩ <;> first | assumption | omega) | (simp only [DL.app_len]; omega) | (simp only [List.length_append, List.length_cons, List.length_nil, List.length_map]; omega))
local macro_rules | `(tactic| walk_at "P") => `(tactic| first | omega | (simp only [List.length_map]; omega))
local macro_rules | `(tactic| walk_at "R") => `(tactic| (walk_at "G"; repeat ((first | (apply DL.Rq.mk; (· walk_at "O")) | (apply DL.on_i; (· assumption)) | (apply DL.rqB.mk; (· exact DL.okR_of (by walk_at "P") (by walk_at "P"))) | (apply DL.rqB.mk; (· exact DL.okR2_of (by walk_at "P") (by walk_at "P") (by walk_at "P") (by walk_at "P")))); walk_at "G")))
local macro_rules | `(tactic| walk_at "N") => `(tactic| (walk_at "R"; repeat ((first | (refine And.intro rfl ?_) | (refine And.intro (of_decide_eq_true rfl) ?_) | (refine And.intro (by decide) ?_)); walk_at "R")))
def c_code : Ct := fun as P => ∃ (pen : List D) (k b : Nat), as = [.box (.L pen), .val (.int (k : Int))] ∧ 1 ≤ k ∧ k ≤ 14 ∧ PenOk (b + 10) pen ∧ ∀ (c : Cd) pen', CdOk c → PenOk b pen' → P (.val c.D) [.box (.L pen'), .val (.int (k : Int))]
theorem use_code {pen : List D} {k b : Nat} {P : R → List Ar → Prop} (h0 : 1 ≤ k) (h1 : k ≤ 14) (hp : PenOk (b + 10) pen) (h : ∀ (c : Cd) pen', CdOk c → PenOk b pen' → P (.val c.D) [.box (.L pen'), .val (.int (k : Int))]) : Cl c_code [.box (.L pen), .val (.int (k : Int))] P := ⟨pen, k, b, rfl, h0, h1, hp, h⟩
def SgT (d : D) : Prop := ∃ x : Str, d = .str x ∧ okS x ∧ x.length ≤ 100
def ToT (d : D) : Prop := ∃ t : Nat, d = .int (t : Int) ∧ t ≤ 10000
theorem jmp_ix {v : Int} (e1 : 0 ≤ v) (e2 : v < 11) : ∃ j : Int, atI [PyData.int 0, .int 1, .int 2, .int 0, .int 1, .int 2, .int 3, .int 4, .int 5, .int 6, .int 7] v = some (.int j) ∧ 0 ≤ j ∧ j < 8 := by
  obtain ⟨_, h, j, rfl, hj⟩ := at_all (ds := [PyData.int 0, PyData.int 1, PyData.int 2, PyData.int 0, PyData.int 1, PyData.int 2, PyData.int 3, PyData.int 4, PyData.int 5, PyData.int 6, PyData.int 7]) (v := v) (fun d => ∃ j : Int, d = .int j ∧ 0 ≤ j ∧ j < 8) e1 e2 (by
    intro d hd
    simp only [List.mem_cons, List.not_mem_nil, or_false] at hd
    rcases hd with rfl | rfl | rfl | rfl | rfl | rfl | rfl | rfl | rfl | rfl | rfl <;> exact ⟨_, rfl, by decide, by decide⟩)
  exact ⟨j, h, hj⟩
theorem jmp_to {k m2 m3 m4 : Nat} (hk0 : 1 ≤ k) (hk : k ≤ 14) (h2 : m2 ≤ 14) (h3 : m3 ≤ 14) (h4 : m4 ≤ 14) {j : Int} (j0 : 0 ≤ j) (j1 : j < 8) : ∃ t : Nat, atI [PyData.int (m2 : Int), .int (m3 : Int), .int (m4 : Int), .int (k : Int), .int 0, .int ((k : Int) - 1), .int 9999, .int ((k : Int) + 1)] j = some (.int (t : Int)) ∧ t ≤ 10000 := by
  obtain ⟨_, h, t, rfl, ht⟩ := at_all (ds := [PyData.int (m2 : Int), PyData.int (m3 : Int), PyData.int (m4 : Int), PyData.int (k : Int), PyData.int 0, PyData.int ((k : Int) - 1), PyData.int 9999, PyData.int ((k : Int) + 1)]) (v := j) ToT j0 j1 (by
    intro d hd
    simp only [List.mem_cons, List.not_mem_nil, or_false] at hd
    rcases hd with rfl | rfl | rfl | rfl | rfl | rfl | rfl | rfl
    · exact ⟨m2, rfl, by omega⟩
    · exact ⟨m3, rfl, by omega⟩
    · exact ⟨m4, rfl, by omega⟩
    · exact ⟨k, rfl, by omega⟩
    · exact ⟨0, rfl, by omega⟩
    · exact ⟨k - 1, by rw [show (k : Int) - 1 = ((k - 1 : Nat) : Int) by omega], by omega⟩
    · exact ⟨9999, rfl, by omega⟩
    · exact ⟨k + 1, rfl, by omega⟩)
  exact ⟨t, h, ht⟩
theorem w_code (as : List Ar) (P : R → List Ar → Prop) (h : c_code as P) : ctOf 4 (m__law_code c_take) as P := by
  obtain ⟨pen, k, b, rfl, hk0, hk, hp, hP⟩ := h
  have sl := sizeLine_eq
  walk_at "R"
  refine use_take (b := b + 9) hp (by omega) (by omega) fun v1 pen1 a1 a2 hp1 => ?_
  obtain ⟨_, hat, hw⟩ := at_all (ds := [PyData.str "sign", PyData.str "sign", PyData.str "but", PyData.str "fail", PyData.str "split", PyData.str "split", PyData.str "commit", PyData.str "back", PyData.str "call", PyData.str "return", PyData.str "cut", PyData.str "done"]) (v := v1) (fun d => d = PyData.str "sign" ∨ d = PyData.str "but" ∨ d = PyData.str "fail" ∨ d = PyData.str "split" ∨ d = PyData.str "commit" ∨ d = PyData.str "back" ∨ d = PyData.str "call" ∨ d = PyData.str "return" ∨ d = PyData.str "cut" ∨ d = PyData.str "done") a1 a2 (by
    intro d hd
    simp only [List.mem_cons, List.not_mem_nil, or_false] at hd
    rcases hd with rfl | rfl | rfl | rfl | rfl | rfl | rfl | rfl | rfl | rfl | rfl | rfl <;> simp)
  walk_at "R"
  rcases hw with rfl | rfl | rfl | rfl | rfl | rfl | rfl | rfl | rfl | rfl
  · walk_at "R"
    refine use_take (b := b + 8) (hp1.mono (by omega)) (by omega) (by omega) fun v2 pen2 b1 b2 hp2 => ?_
    obtain ⟨_, hat2, x, rfl, hx⟩ := at_all (ds := [PyData.str "a", PyData.str "b", PyData.str "ab", PyData.str "0", PyData.str "ab"]) (v := v2) SgT b1 b2 (by
      intro d hd
      simp only [List.mem_cons, List.not_mem_nil, or_false] at hd
      rcases hd with rfl | rfl | rfl | rfl | rfl <;> exact ⟨_, rfl, okS_of (by decide +kernel), by decide⟩)
    walk_at "R"
    exact hP (.sg true x) pen2 hx (hp2.mono (by omega))
  · walk_at "R"
    refine use_take (b := b + 8) (hp1.mono (by omega)) (by omega) (by omega) fun v2 pen2 b1 b2 hp2 => ?_
    obtain ⟨_, hat2, x, rfl, hx⟩ := at_all (ds := [PyData.str "a", PyData.str "b", PyData.str "ab", PyData.str "0", PyData.str "ab"]) (v := v2) SgT b1 b2 (by
      intro d hd
      simp only [List.mem_cons, List.not_mem_nil, or_false] at hd
      rcases hd with rfl | rfl | rfl | rfl | rfl <;> exact ⟨_, rfl, okS_of (by decide +kernel), by decide⟩)
    walk_at "R"
    exact hP (.sg false x) pen2 hx (hp2.mono (by omega))
  · walk_at "R"
    exact hP .fail pen1 trivial (hp1.mono (by omega))
  · walk_at "R"
    refine use_take (b := b + 8) (hp1.mono (by omega)) (by omega) (by omega) fun v2 pen2 b1 b2 hp2 => ?_
    obtain ⟨m2, rfl⟩ := Int.eq_ofNat_of_zero_le b1
    walk_at "R"
    refine use_take (b := b + 7) (hp2.mono (by omega)) (by omega) (by omega) fun v3 pen3 c1 c2 hp3 => ?_
    obtain ⟨m3, rfl⟩ := Int.eq_ofNat_of_zero_le c1
    walk_at "R"
    refine use_take (b := b + 6) (hp3.mono (by omega)) (by omega) (by omega) fun v4 pen4 d1 d2 hp4 => ?_
    obtain ⟨m4, rfl⟩ := Int.eq_ofNat_of_zero_le d1
    walk_at "R"
    refine use_take (b := b + 5) (hp4.mono (by omega)) (by omega) (by omega) fun v5 pen5 e1 e2 hp5 => ?_
    obtain ⟨j, hat5, j0, j1⟩ := jmp_ix e1 e2
    obtain ⟨t, hat6, ht⟩ := jmp_to (k := k) hk0 hk (m2 := m2) (m3 := m3) (m4 := m4) (by omega) (by omega) (by omega) j0 j1
    walk_at "R"
    exact hP (.jmp .split t) pen5 ht (hp5.mono (by omega))
  · walk_at "R"
    refine use_take (b := b + 8) (hp1.mono (by omega)) (by omega) (by omega) fun v2 pen2 b1 b2 hp2 => ?_
    obtain ⟨m2, rfl⟩ := Int.eq_ofNat_of_zero_le b1
    walk_at "R"
    refine use_take (b := b + 7) (hp2.mono (by omega)) (by omega) (by omega) fun v3 pen3 c1 c2 hp3 => ?_
    obtain ⟨m3, rfl⟩ := Int.eq_ofNat_of_zero_le c1
    walk_at "R"
    refine use_take (b := b + 6) (hp3.mono (by omega)) (by omega) (by omega) fun v4 pen4 d1 d2 hp4 => ?_
    obtain ⟨m4, rfl⟩ := Int.eq_ofNat_of_zero_le d1
    walk_at "R"
    refine use_take (b := b + 5) (hp4.mono (by omega)) (by omega) (by omega) fun v5 pen5 e1 e2 hp5 => ?_
    obtain ⟨j, hat5, j0, j1⟩ := jmp_ix e1 e2
    obtain ⟨t, hat6, ht⟩ := jmp_to (k := k) hk0 hk (m2 := m2) (m3 := m3) (m4 := m4) (by omega) (by omega) (by omega) j0 j1
    walk_at "R"
    exact hP (.jmp .commit t) pen5 ht (hp5.mono (by omega))
  · walk_at "R"
    refine use_take (b := b + 8) (hp1.mono (by omega)) (by omega) (by omega) fun v2 pen2 b1 b2 hp2 => ?_
    obtain ⟨m2, rfl⟩ := Int.eq_ofNat_of_zero_le b1
    walk_at "R"
    refine use_take (b := b + 7) (hp2.mono (by omega)) (by omega) (by omega) fun v3 pen3 c1 c2 hp3 => ?_
    obtain ⟨m3, rfl⟩ := Int.eq_ofNat_of_zero_le c1
    walk_at "R"
    refine use_take (b := b + 6) (hp3.mono (by omega)) (by omega) (by omega) fun v4 pen4 d1 d2 hp4 => ?_
    obtain ⟨m4, rfl⟩ := Int.eq_ofNat_of_zero_le d1
    walk_at "R"
    refine use_take (b := b + 5) (hp4.mono (by omega)) (by omega) (by omega) fun v5 pen5 e1 e2 hp5 => ?_
    obtain ⟨j, hat5, j0, j1⟩ := jmp_ix e1 e2
    obtain ⟨t, hat6, ht⟩ := jmp_to (k := k) hk0 hk (m2 := m2) (m3 := m3) (m4 := m4) (by omega) (by omega) (by omega) j0 j1
    walk_at "R"
    exact hP (.jmp .back t) pen5 ht (hp5.mono (by omega))
  · walk_at "R"
    refine use_take (b := b + 8) (hp1.mono (by omega)) (by omega) (by omega) fun v2 pen2 b1 b2 hp2 => ?_
    obtain ⟨m2, rfl⟩ := Int.eq_ofNat_of_zero_le b1
    walk_at "R"
    refine use_take (b := b + 7) (hp2.mono (by omega)) (by omega) (by omega) fun v3 pen3 c1 c2 hp3 => ?_
    obtain ⟨m3, rfl⟩ := Int.eq_ofNat_of_zero_le c1
    walk_at "R"
    refine use_take (b := b + 6) (hp3.mono (by omega)) (by omega) (by omega) fun v4 pen4 d1 d2 hp4 => ?_
    obtain ⟨m4, rfl⟩ := Int.eq_ofNat_of_zero_le d1
    walk_at "R"
    refine use_take (b := b + 5) (hp4.mono (by omega)) (by omega) (by omega) fun v5 pen5 e1 e2 hp5 => ?_
    obtain ⟨j, hat5, j0, j1⟩ := jmp_ix e1 e2
    obtain ⟨t, hat6, ht⟩ := jmp_to (k := k) hk0 hk (m2 := m2) (m3 := m3) (m4 := m4) (by omega) (by omega) (by omega) j0 j1
    walk_at "R"
    exact hP (.jmp .call t) pen5 ht (hp5.mono (by omega))
  · walk_at "R"
    exact hP .ret pen1 trivial (hp1.mono (by omega))
  · walk_at "R"
    exact hP .cut pen1 trivial (hp1.mono (by omega))
  · walk_at "R"
    exact hP .done pen1 trivial (hp1.mono (by omega))
def c_codes : Ct := fun as P => ∃ (pen : List D) (b : Nat), as = [.box (.L pen)] ∧ PenOk (b + 300) pen ∧ ∀ (C : List Cd) pen', (∀ c ∈ C, CdOk c) → C ≠ [] → C.length ≤ 100 → PenOk b pen' → P (.val (codesD C)) [.box (.L pen')]
theorem use_codes {pen : List D} {b : Nat} {P : R → List Ar → Prop} (hp : PenOk (b + 300) pen) (h : ∀ (C : List Cd) pen', (∀ c ∈ C, CdOk c) → C ≠ [] → C.length ≤ 100 → PenOk b pen' → P (.val (codesD C)) [.box (.L pen')]) : Cl c_codes [.box (.L pen)] P := ⟨pen, b, rfl, hp, h⟩
theorem w_codes (as : List Ar) (P : R → List Ar → Prop) (h : c_codes as P) : ctOf 5 (m__law_codes c_take c_code) as P := by
  obtain ⟨pen, b, rfl, hp, hP⟩ := h
  have sl := sizeLine_eq
  walk_at "R"
  refine use_take (b := b + 299) hp (by omega) (by omega) fun v1 pen1 a1 a2 hp1 => ?_
  obtain ⟨m, rfl⟩ := Int.eq_ofNat_of_zero_le a1
  have e1 : (1 : Int) + (m : Int) = ((m + 1 : Nat) : Int) := by omega
  walk_at "R"
  rw [e1]
  refine lp_by (fun ds ρ => ∃ (k : Nat) (pen : List D) (C : List Cd) (s3 s4 : Option Ce), ds = rangeD (k : Int) ds.length ∧ k + ds.length = m + 1 ∧ C.length = k ∧ (∀ c ∈ C, CdOk c) ∧ PenOk (b + 20 * ds.length) pen ∧ ρ = [some (.box true (.L pen)), some (.val (.int ((m + 1 : Nat) : Int))), some (.box false (.L (C.map Cd.D))), s3, s4]) ?_ ?_ ?_
  · refine ⟨0, pen1, [], none, none, ?_, ?_, rfl, fun c hc => (by cases hc), ?_, rfl⟩
    · rw [range_len]; rfl
    · rw [range_len, Int.toNat_natCast]; omega
    · rw [range_len, Int.toNat_natCast]; exact hp1.mono (by omega)
  · rintro d ds ρ ⟨k, pen, C, s3, s4, g1, g2, g3, g4, g5, rfl⟩ ih
    rw [List.length_cons] at g1 g2 g5
    rw [range_cons, List.cons.injEq] at g1
    obtain ⟨rfl, g1⟩ := g1
    have hCl : (C.map Cd.D).length < sizeLine := by rw [List.length_map]; omega
    have fin : ∀ (c : Cd) (pen' : List D) (s4 : Option Ce), CdOk c → PenOk (b + 20 * ds.length) pen' → _ := fun c pen' s4 hc hp' => ih [some (.box true (.L pen')), some (.val (.int ((m + 1 : Nat) : Int))), some (.box false (.L (C.map Cd.D ++ [c.D]))), some (.val (.int (k : Int))), s4] ⟨k + 1, pen', C ++ [c], _, s4, g1, by omega, by rw [List.length_append, g3]; rfl, fun c' hc' => by
      rcases List.mem_append.mp hc' with q | q
      · exact g4 c' q
      · rw [List.mem_singleton.mp q]; exact hc, hp', by rw [List.map_append]; rfl⟩
    walk_at "R"
    refine use_code (b := b + 20 * ds.length + 10) (by omega) (by omega) (g5.mono (by omega)) fun c pen2 hc hp2 => ?_
    walk_at "R"
    apply br_d <;> intro hd
    · walk_at "R"
      refine use_take (b := b + 20 * ds.length + 9) hp2 (by omega) (by omega) fun v3 pen3 c1 c2 hp3 => ?_
      walk_at "R"
      apply br_d <;> intro hd
      · walk_at "R"
        refine use_take (b := b + 20 * ds.length + 8) (hp3.mono (by omega)) (by omega) (by omega) fun v4 pen4 d1 d2 hp4 => ?_
        obtain ⟨_, hat4, w, rfl, hw⟩ := at_all (ds := [PyData.str "split", PyData.str "call"]) (v := v4) (fun d => ∃ w : JW, d = .str w.s ∧ True) d1 d2 (by
          intro d hd
          simp only [List.mem_cons, List.not_mem_nil, or_false] at hd
          rcases hd with rfl | rfl
          · exact ⟨.split, rfl, trivial⟩
          · exact ⟨.call, rfl, trivial⟩)
        have hmx : ∃ q : Nat, (if ((m + 1 : Nat) : Int) - (k : Int) - 1 > 1 then ((m + 1 : Nat) : Int) - (k : Int) - 1 else 1) = (q : Int) ∧ 1 ≤ q ∧ q ≤ 14 := by
          split
          · exact ⟨m - k, by omega, by omega, by omega⟩
          · exact ⟨1, rfl, by omega, by omega⟩
        obtain ⟨q, hq, q1, q2⟩ := hmx
        walk_at "R"
        rw [hq]
        refine use_take (b := b + 20 * ds.length + 7) (hp4.mono (by omega)) (by omega) (by omega) fun v5 pen5 f1 f2 hp5 => ?_
        obtain ⟨m5, rfl⟩ := Int.eq_ofNat_of_zero_le f1
        walk_at "R"
        exact fin (.jmp w (k + 1 + m5)) pen5 _ (show k + 1 + m5 ≤ 10000 by omega) (hp5.mono (by omega))
      · walk_at "R"
        exact fin c pen3 _ hc (hp3.mono (by omega))
    · walk_at "R"
      exact fin c pen2 _ hc (hp2.mono (by omega))
  · rintro ρ ⟨k, pen, C, s3, s4, g1, g2, g3, g4, g5, rfl⟩
    rw [List.length_nil] at g2 g5
    walk_at "R"
    exact hP C pen g4 (by rintro rfl; simp at g3; omega) (by omega) g5
end L51
namespace L51
open PySem L2 PyProof.Rows DL
local macro_rules | `(tactic| walk_at "G") => `(tactic| ((conv => whnf); try dsimp only [DL.MB.toD, DL.cellOf]))
local macro_rules | `(tactic| walk_at "O") => `(tactic| first | assumption | omega | (refine ⟨?_, ?_⟩ <;> first | assumption | omega) | (simp only [DL.app_len]; omega) | (simp only [List.length_append, List.length_cons, List.length_nil, List.length_map]; omega))
local macro_rules | `(tactic| walk_at "P") => `(tactic| first | omega | (simp only [List.length_map]; omega))
local macro_rules | `(tactic| walk_at "R") => `(tactic| (walk_at "G"; repeat ((first | (apply DL.Rq.mk; (· walk_at "O")) | (apply DL.on_i; (· assumption)) | (apply DL.rqB.mk; (· exact DL.okR_of (by walk_at "P") (by walk_at "P"))) | (apply DL.rqB.mk; (· exact DL.okR2_of (by walk_at "P") (by walk_at "P") (by walk_at "P") (by walk_at "P")))); walk_at "G")))
local macro_rules | `(tactic| walk_at "N") => `(tactic| (walk_at "R"; repeat ((first | (refine And.intro rfl ?_) | (refine And.intro (of_decide_eq_true rfl) ?_) | (refine And.intro (by decide) ?_)); walk_at "R")))
inductive Her (T : D → Prop) : LO → Prop
  | ret {S : D → Prop} : (∀ d, S d → T d) → Her T (.ret S)
  | exc {S : Str → List (Str × D) → Prop} : (∀ C fs, S C fs → (C = "Astray" ∧ ∃ n : Nat, fs = ([("number", .int (n : Int))] : List (Str × D)) ∧ T (.tuple [.str "astray", .int (n : Int)]))) → Her T (.exc S)
def c_heard : Lam → LO → Ct := fun L out as P => as = [.ob (.lam L)] ∧ Her (fun d => P (.val d) as) out
theorem w_heard (L : Lam) (out : LO) (as : List Ar) (P : R → List Ar → Prop) (h : c_heard L out as P) : ctOf 4 (m__law_heard_run L out) as P := by
  obtain ⟨rfl, hP⟩ := h
  have sl := sizeLine_eq
  cases hP with
  | @ret S hS =>
    walk_at "N"
    left
    walk_at "N"
    intro d hd
    walk_at "R"
    exact hS d hd
  | @exc S hS =>
    walk_at "N"
    right
    walk_at "N"
    intro C fs hC
    obtain ⟨rfl, e, rfl, hT⟩ := hS C fs hC
    walk_at "N"
    exact hT
def qR : Str := "law.<locals>.<lambda>"
theorem use_lam {mb : ME} {mx : MX} {ds : List (Option D)} {P : R → Prop} (out : LO) (h : LOk mb mx ds out) (k : Her (fun d => P (.val d)) out) : Lmk c_heard mb mx ds P := ⟨out, h, fun L _ => ⟨rfl, k⟩⟩
def c_lpen : Ct := fun as P => ∃ ns : List Int, as = [.scr ns] ∧ ∀ pen, PenOk 1000000000000 pen → P (.own (.L pen)) [.scr ns]
theorem use_lpen {ns : List Int} {P : R → List Ar → Prop} (h : ∀ pen, PenOk 1000000000000 pen → P (.own (.L pen)) [.scr ns]) : Cl c_lpen [.scr ns] P := ⟨ns, rfl, h⟩
theorem w_lpen (as : List Ar) (P : R → List Ar → Prop) (h : c_lpen as P) : ctOf 1 m__law_pen as P := by
  obtain ⟨ns, rfl, hP⟩ := h
  have sl := sizeLine_eq
  have hp := hP _ (pen_start (ns := ns))
  walk_at "R"
  exact hp
/-- how far it gets -/
def LB (M : Nat) (h : Nat) (l : Hp51) : Prop := h ≤ M ∧ ∀ p ∈ l, ∀ a, p.2 = some a → a ≤ M
theorem flS_bd {M : Nat} : ∀ {l : Hp51} {n h n' h' : Nat} {l' : Hp51}, LB M h l → flS l n h = .on n' h' l' → LB (M + 1) h' l'
  | [], _, _, _, _, _, _, e => by cases e
  | (m, some a) :: r, _, _, _, _, _, hb, e => by
    cases e
    exact ⟨Nat.le_succ_of_le (hb.2 (m, some a) (by simp) a rfl), fun p hp b q => Nat.le_succ_of_le (hb.2 p (by simp [hp]) b q)⟩
  | (_, none) :: r, n, h, _, _, _, hb, e => flS_bd (l := r) (n := n) (h := h) ⟨hb.1, fun p hp => hb.2 p (by simp [hp])⟩ e
theorem stp_bd {M : Nat} {c : Cd} {tx : Str} {n h n' h' : Nat} {l l' : Hp51} (hb : LB M h l) (e : stp c tx n h l = .on n' h' l') : LB (M + 1) h' l' := by
  have up : LB (M + 1) h l := ⟨Nat.le_succ_of_le hb.1, fun p hp b q => Nat.le_succ_of_le (hb.2 p hp b q)⟩
  cases c with
  | done => cases e
  | fail => exact flS_bd hb e
  | sg s y =>
    rw [stp] at e
    split at e
    · cases e; exact ⟨Nat.succ_le_succ hb.1, up.2⟩
    · exact flS_bd hb e
  | jmp w t =>
    cases w with
    | split =>
      cases e
      refine ⟨up.1, fun p hp b q => ?_⟩
      rcases List.mem_cons.mp hp with rfl | hp
      · cases q; exact up.1
      · exact up.2 p hp b q
    | call =>
      cases e
      refine ⟨up.1, fun p hp b q => ?_⟩
      rcases List.mem_cons.mp hp with rfl | hp
      · cases q
      · exact up.2 p hp b q
    | commit =>
      cases l with
      | nil => cases e
      | cons p r =>
        obtain ⟨m, o⟩ := p
        cases o with
        | none => cases e
        | some a =>
          have e : SR.on t h r = .on n' h' l' := e
          cases e
          exact ⟨up.1, fun p hp => up.2 p (by simp [hp])⟩
    | back =>
      cases l with
      | nil => cases e
      | cons p r =>
        obtain ⟨m, o⟩ := p
        cases o with
        | none => cases e
        | some a =>
          have e : SR.on t a r = .on n' h' l' := e
          cases e
          exact ⟨up.2 (m, some h') (by simp) h' rfl, fun p hp => up.2 p (by simp [hp])⟩
  | ret =>
    cases l with
    | nil => cases e
    | cons p r =>
      obtain ⟨m, o⟩ := p
      cases o with
      | some a => cases e
      | none =>
        have e : SR.on m h r = .on n' h' l' := e
        cases e
        exact ⟨up.1, fun p hp => up.2 p (by simp [hp])⟩
  | cut =>
    cases l with
    | nil => cases e
    | cons p r =>
      obtain ⟨m, o⟩ := p
      cases o with
      | none => cases e
      | some a => exact flS_bd (l := r) ⟨hb.1, fun p hp => hb.2 p (by simp [hp])⟩ (show flS r n h = .on n' h' l' from e)
def ZB (B : Nat) : RR51 → Prop
  | .fin h g => h ≤ B ∧ g ≤ B
  | .non g => g ≤ B
  | .ast n => n ≤ B
theorem rn_bd {C : List Cd} {tx : Str} (hC : C.length ≤ 100) : ∀ {f g n h : Nat} {l : Hp51} {z : RR51} {M : Nat}, LB M h l → M + f ≤ 9000 → g + f ≤ 3000 → rn C tx f g n h l = some z → ZB 9000 z
  | 0, _, _, _, _, _, _, _, _, _, e => by cases e
  | f + 1, g, n, h, l, z, M, hb, h1, h2, e => by
    obtain ⟨f', c, e1, hc, hcase⟩ := rn_step e
    obtain rfl : f = f' := by omega
    have hn : n < C.length := (List.getElem?_eq_some_iff.mp hc).1
    have hM := hb.1
    rcases hcase with ⟨_, rfl⟩ | ⟨_, ⟨_, rfl⟩ | ⟨_, rfl⟩ | ⟨n', h', l', hs, ⟨_, rfl⟩ | ⟨_, hq⟩⟩⟩
    · exact ⟨by omega, by omega⟩
    · exact (by omega : g + 1 ≤ 9000)
    · exact (by omega : n ≤ 9000)
    · exact (by omega : n ≤ 9000)
    · exact rn_bd hC (M := M + 1) (stp_bd hb hs) (by omega) (by omega) hq
theorem zb_repr {z : RR51} (h : ZB 9000 z) : reprOk (rD51 z) = true := by
  cases z with
  | fin a g =>
    obtain ⟨h1, h2⟩ := h
    exact repr_ok (d := .tuple [.int (a : Int), .int (g : Int)]) ⟨by simp only [okD]; omega, by simp only [okD]; omega, trivial⟩ (by simp [wt, wts]) (by simp [PyData.depth, PyData.depthAll]) (by simp [PyData.hasDict, PyData.hasDictAll])
  | non g =>
    have h : g ≤ 9000 := h
    exact repr_ok (d := .tuple [.none, .int (g : Int)]) ⟨trivial, by simp only [okD]; omega, trivial⟩ (by simp [wt, wts]) (by simp [PyData.depth, PyData.depthAll]) (by simp [PyData.hasDict, PyData.hasDictAll])
  | ast n =>
    have h : n ≤ 9000 := h
    exact repr_ok (d := .tuple [.str (Str.ofString "astray"), .int (n : Int)]) ⟨okS_of (by decide +kernel), by simp only [okD]; omega, trivial⟩ (by simp [wt, wts]; decide) (by simp [PyData.depth, PyData.depthAll]) (by simp [PyData.hasDict, PyData.hasDictAll])
/-- a case: codes, a text, a place of it -/
def Cs51 (d : D) : Prop := ∃ (C : List Cd) (tx : Str) (a : Nat), d = .tuple [codesD C, .str tx, .int (a : Int)] ∧ (∀ c ∈ C, CdOk c) ∧ C ≠ [] ∧ C.length ≤ 100 ∧ tx.length ≤ 10 ∧ a ≤ tx.length
def c_law (tp : Addr) : Ct := fun as P => ∃ ns : List Int, ns.length ≤ 63 ∧ as = [.scr ns, .gh [(tp, .tbl qR)]] ∧ P (.val (.bool true)) [.scr ns, .gh [(tp, .tbl qR)]]
theorem law_ok (tp : Addr) (ns : List Int) (h : ns.length ≤ 63) : c_law tp [.scr ns, .gh [(tp, .tbl qR)]] fun y _ => y = .val (.bool true) := ⟨ns, h, rfl, rfl⟩
theorem w_law (tp : Addr) (as : List Ar) (P : R → List Ar → Prop) (h : c_law tp as P) : ctOf 12 (m_law c_lpen c_codes c_take c_lr c_run cx_run c_heard tp) as P := by
  obtain ⟨ns, hns, rfl, hP⟩ := h
  have sl := sizeLine_eq
  walk_at "N"
  refine use_lpen fun pen0 hp0 => ?_
  walk_at "N"
  refine lp_by (fun ds ρ => ∃ (pen : List D) (L : List D) (s4 s5 s6 : Option Ce) (s8 : Option Ce), (∀ d ∈ L, Cs51 d) ∧ L.length + ds.length ≤ 12 ∧ PenOk (1000 + 400 * ds.length) pen ∧ ρ = [some (.ob (.scr ns)), some (.gh [(tp, .tbl qR)]), some (.box false (.L pen)), some (.box false (.L L)), s4, s5, s6, none, s8, none, none, none]) ?_ ?_ ?_
  · exact ⟨pen0, [], none, none, none, none, fun d hd => (by cases hd), by rw [range_len]; simp, hp0.mono (by rw [range_len]; decide), rfl⟩
  · rintro d ds ρ ⟨pen, L, s4, s5, s6, s8, g1, g2, g3, rfl⟩ ih
    rw [List.length_cons] at g2 g3
    walk_at "N"
    refine use_codes (b := 1000 + 400 * ds.length + 100) (g3.mono (by omega)) fun C pen1 hC hne hCl hp1 => ?_
    walk_at "N"
    refine use_take (b := 1000 + 400 * ds.length + 99) hp1 (by omega) (by omega) fun v1 pen2 a1 a2 hp2 => ?_
    obtain ⟨m, rfl⟩ := Int.eq_ofNat_of_zero_le a1
    walk_at "N"
    refine lcc_by (fun es acc r => ∃ (pen : List D) (l : List Nat), r = [some (.ob (.scr ns)), some (.gh [(tp, .tbl qR)]), some (.box false (.L pen)), some (.box false (.L L)), some (.val d), some (.val (codesD C)), s6, none, s8, none, none, none] ∧ acc = l.map (fun c => .str ⟨#[c]⟩) ∧ l.length + es.length ≤ 6 ∧ PenOk (1000 + 400 * ds.length + 50 + es.length) pen) ?_ ?_ ?_
    · refine ⟨pen2, [], rfl, rfl, ?_, hp2.mono ?_⟩
      · rw [range_len, Int.toNat_natCast]; simp only [List.length_nil]; omega
      · rw [range_len, Int.toNat_natCast]; omega
    · rintro x es acc r ⟨pen5, l, rfl, rfl, h2, h3⟩ ih2
      simp only [List.length_cons] at h2 h3
      have hl : (l.map fun c => PyData.str ⟨#[c]⟩).length < sizeLine := by rw [List.length_map]; omega
      walk_at "N"
      refine use_take (b := 1000 + 400 * ds.length + 50 + es.length) (h3.mono (by omega)) (by omega) (by omega) fun v pen6 e1 e2 hp6 => ?_
      obtain ⟨c, hc⟩ : ∃ c, atI ("ab0" : Str).cps.toList v = some c := by
        obtain ⟨n, rfl⟩ := Int.eq_ofNat_of_zero_le e1
        have hl : ("ab0" : Str).cps.toList.length = 3 := by decide +kernel
        exact ⟨_, at_nat (List.getElem?_eq_getElem (by rw [hl]; omega))⟩
      walk_at "N"
      refine ih2 _ _ ⟨pen6, l ++ [c], rfl, by rw [List.map_append]; rfl, by simp; omega, hp6⟩
    · rintro acc r ⟨pen5, l, rfl, rfl, h2, h3⟩
      simp only [List.length_nil] at h2 h3
      have hj := join_ones_fit (l := l) (by omega)
      have hs := strsOf_ones l
      have ej := joinOnes l
      have ejl : (Txt.join (Str.ofString "") (l.map fun c => (⟨#[c]⟩ : Str))).length = l.length := by rw [slen, ej]
      walk_at "N"
      generalize hx : Txt.join (Str.ofString "") (l.map fun c => (⟨#[c]⟩ : Str)) = x at ej ejl
      refine use_take (b := 1000 + 400 * ds.length + 49) (h3.mono (by omega)) (by omega) (by omega) fun v2 pen6 b1 b2 hp6 => ?_
      obtain ⟨m2, rfl⟩ := Int.eq_ofNat_of_zero_le b1
      walk_at "N"
      refine use_take (b := 1000 + 400 * ds.length + 48) hp6 (by omega) (by omega) fun v3 pen7 c1 c2 hp7 => ?_
      obtain ⟨_, hat, a, rfl, ha⟩ := at_all (ds := [PyData.int 0, PyData.int 0, PyData.int (x.length : Int), PyData.int (m2 : Int)]) (v := v3) (fun d => ∃ a : Nat, d = .int (a : Int) ∧ a ≤ x.length) c1 c2 (by
        intro d hd
        simp only [List.mem_cons, List.not_mem_nil, or_false] at hd
        rcases hd with rfl | rfl | rfl | rfl
        · exact ⟨0, rfl, by omega⟩
        · exact ⟨0, rfl, by omega⟩
        · exact ⟨x.length, rfl, by omega⟩
        · exact ⟨m2, rfl, by omega⟩)
      walk_at "N"
      refine ih _ ⟨pen7, _, _, _, _, _, fun d hd => ?_, by rw [List.length_append, List.length_singleton]; omega, hp7.mono (by omega), rfl⟩
      rcases List.mem_append.mp hd with q | q
      · exact g1 d q
      · rw [List.mem_singleton.mp q]
        exact ⟨C, x, a, rfl, hC, hne, hCl, by omega, ha⟩
  · rintro ρ ⟨pen, L, s4, s5, s6, s8, g1, g2, g3, rfl⟩
    rw [List.length_nil] at g2
    have hLl : (L ++ L.reverse).length ≤ 24 := by rw [List.length_append, List.length_reverse]; omega
    walk_at "N"
    rw [show decide (L.length + L.reverse.length ≤ sizeLine) = true from decide_eq_true (by rw [List.length_reverse]; omega)]
    walk_at "N"
    have hall : ∀ d ∈ L ++ L.reverse, Cs51 d := fun d hd => by
      rcases List.mem_append.mp hd with q | q
      · exact g1 d q
      · exact g1 d (List.mem_reverse.mp q)
    generalize L ++ L.reverse = LL at hall ⊢
    refine lp_by (fun ds ρ => ∃ (s5 s6 s8 s9 s10 s11 : Option Ce), (∀ d ∈ ds, Cs51 d) ∧ ρ = [some (.ob (.scr ns)), some (.gh [(tp, .tbl qR)]), some (.box false (.L pen)), some (.box false (.L L)), s4, s5, s6, none, s8, s9, s10, s11]) ?_ ?_ ?_
    · exact ⟨_, _, _, _, _, _, hall, rfl⟩
    · rintro d ds ρ ⟨s5, s6, s8, s9, s10, s11, h1, rfl⟩ ih
      obtain ⟨C, tx, a, rfl, hC, hne, hCl, htx, ha⟩ := h1 d (by simp)
      have h2 : ∀ d ∈ ds, Cs51 d := fun d hd => h1 d (by simp [hd])
      walk_at "N"
      refine use_lr hC hne hCl (by omega) ?_
      cases hz : rn C tx 3000 0 0 a [] with
      | none =>
        walk_at "N"
        exact ih _ ⟨_, _, _, _, _, _, h2, rfl⟩
      | some z =>
        have hzb := rn_bd (M := 100) hCl ⟨by omega, fun p hp => (by cases hp)⟩ (by omega) (by omega) hz
        have hrp := zb_repr hzb
        have hnn : isNone (oR51 (some z)) = false := by cases z <;> rfl
        walk_at "N"
        rw [hnn]
        walk_at "N"
        by_cases hast : ∃ n, z = .ast n
        · obtain ⟨n, rfl⟩ := hast
          refine ⟨⟨rfl, rfl⟩, use_lam (.exc fun C' fs => C' = "Astray" ∧ fs = ([("number", .int (n : Int))] : List (Str × D))) ?_ (.exc fun C' fs hS => ?_)⟩
          · walk_at "R"
            exact usex_run hC hne hCl (by omega) (Nat.le_refl _) hz ⟨rfl, rfl⟩
          obtain ⟨rfl, rfl⟩ := hS
          refine ⟨rfl, n, rfl, ?_⟩
          walk_at "N"
          refine ⟨⟨rfl, rfl⟩, use_lam (.exc fun C' fs => C' = "Astray" ∧ fs = ([("number", .int (n : Int))] : List (Str × D))) ?_ (.exc fun C' fs hS => ?_)⟩
          · walk_at "R"
            exact usex_run hC hne hCl (by omega) (Nat.le_refl _) hz ⟨rfl, rfl⟩
          obtain ⟨rfl, rfl⟩ := hS
          refine ⟨rfl, n, rfl, ?_⟩
          walk_at "N"
          have hr1 : reprOk (.tuple [.str (Str.ofString "astray"), .int (n : Int)]) = true := hrp
          have hr2 : reprOk (oR51 (some (.ast n))) = true := hrp
          have hs1 : decide (PyData.shown (.tuple [.str (Str.ofString "astray"), .int (n : Int)]) = PyData.shown (oR51 (some (.ast n)))) = true := decide_eq_true rfl
          rw [hr1]
          walk_at "N"
          rw [hr2]
          walk_at "N"
          rw [hs1]
          walk_at "N"
          rw [hr1]
          walk_at "N"
          rw [hr2]
          walk_at "N"
          rw [hs1]
          walk_at "N"
          exact ih _ ⟨_, _, _, _, _, _, h2, rfl⟩
        · have hna : ∀ n, z ≠ .ast n := fun n q => hast ⟨n, q⟩
          refine ⟨⟨rfl, rfl⟩, use_lam (.ret fun d => d = rD51 z) ?_ (.ret fun d hd => ?_)⟩
          · walk_at "R"
            exact use_run hC hne hCl (by omega) (Nat.le_refl _) hz hna rfl
          subst hd
          walk_at "N"
          refine ⟨⟨rfl, rfl⟩, use_lam (.ret fun d => d = rD51 z) ?_ (.ret fun d hd => ?_)⟩
          · walk_at "R"
            exact use_run hC hne hCl (by omega) (Nat.le_refl _) hz hna rfl
          subst hd
          walk_at "N"
          have hr2 : reprOk (oR51 (some z)) = true := hrp
          have hs1 : decide (PyData.shown (rD51 z) = PyData.shown (oR51 (some z))) = true := decide_eq_true rfl
          rw [hrp]
          walk_at "N"
          rw [hr2]
          walk_at "N"
          rw [hs1]
          walk_at "N"
          rw [hrp]
          walk_at "N"
          rw [hr2]
          walk_at "N"
          rw [hs1]
          walk_at "N"
          exact ih _ ⟨_, _, _, _, _, _, h2, rfl⟩
    · rintro ρ ⟨s5, s6, s8, s9, s10, s11, h1, rfl⟩
      walk_at "N"
      exact hP
end L51
namespace L51
open PySem L2 PyProof.Rows DL L51H
/-- the defs of the module -/
structure All (K : Fg) (mg : Str → Option Value) (fds : Nat → FuncData) : Prop where
  f_Run___init__ : FunD K "__init__" "Run.__init__" (defArgs s_Run___init__) (defBody s_Run___init__) (defScope s_Run___init__) [] [] (He.ma K (He.ga K "Run") "__init__") (fds 0)
  f_Run_failed : FunD K "failed" "Run.failed" (defArgs s_Run_failed) (defBody s_Run_failed) (defScope s_Run_failed) [] [] (He.ma K (He.ga K "Run") "failed") (fds 1)
  f_Run_taken : FunD K "taken" "Run.taken" (defArgs s_Run_taken) (defBody s_Run_taken) (defScope s_Run_taken) [] [] (He.ma K (He.ga K "Run") "taken") (fds 2)
  f_Run_signed : FunD K "signed" "Run.signed" (defArgs s_Run_signed) (defBody s_Run_signed) (defScope s_Run_signed) [] [] (He.ma K (He.ga K "Run") "signed") (fds 3)
  f_Run_led : FunD K "led" "Run.led" (defArgs s_Run_led) (defBody s_Run_led) (defScope s_Run_led) [] [] (He.ma K (He.ga K "Run") "led") (fds 4)
  f_Run_went_on : FunD K "went_on" "Run.went_on" (defArgs s_Run_went_on) (defBody s_Run_went_on) (defScope s_Run_went_on) [] [] (He.ma K (He.ga K "Run") "went_on") (fds 5)
  f_run : FunD K "run" "run" (defArgs s_run) (defBody s_run) (defScope s_run) [.int (0)] [] (He.ga K "run") (fds 6)
  g_run : mg "run" = some (.ref (He.ga K "run"))
  f__law_pen : FunD K "_law_pen" "_law_pen" (defArgs s__law_pen) (defBody s__law_pen) (defScope s__law_pen) [] [] (He.ga K "_law_pen") (fds 7)
  g__law_pen : mg "_law_pen" = some (.ref (He.ga K "_law_pen"))
  f__law_take : FunD K "_law_take" "_law_take" (defArgs s__law_take) (defBody s__law_take) (defScope s__law_take) [] [] (He.ga K "_law_take") (fds 8)
  g__law_take : mg "_law_take" = some (.ref (He.ga K "_law_take"))
  f__law_failed : FunD K "_law_failed" "_law_failed" (defArgs s__law_failed) (defBody s__law_failed) (defScope s__law_failed) [] [] (He.ga K "_law_failed") (fds 9)
  g__law_failed : mg "_law_failed" = some (.ref (He.ga K "_law_failed"))
  f__law_gone_on : FunD K "_law_gone_on" "_law_gone_on" (defArgs s__law_gone_on) (defBody s__law_gone_on) (defScope s__law_gone_on) [] [] (He.ga K "_law_gone_on") (fds 10)
  g__law_gone_on : mg "_law_gone_on" = some (.ref (He.ga K "_law_gone_on"))
  f__law_run : FunD K "_law_run" "_law_run" (defArgs s__law_run) (defBody s__law_run) (defScope s__law_run) [] [] (He.ga K "_law_run") (fds 11)
  g__law_run : mg "_law_run" = some (.ref (He.ga K "_law_run"))
  f__law_heard_run : FunD K "_law_heard_run" "_law_heard_run" (defArgs s__law_heard_run) (defBody s__law_heard_run) (defScope s__law_heard_run) [] [] (He.ga K "_law_heard_run") (fds 12)
  g__law_heard_run : mg "_law_heard_run" = some (.ref (He.ga K "_law_heard_run"))
  f__law_code : FunD K "_law_code" "_law_code" (defArgs s__law_code) (defBody s__law_code) (defScope s__law_code) [] [] (He.ga K "_law_code") (fds 13)
  g__law_code : mg "_law_code" = some (.ref (He.ga K "_law_code"))
  f__law_codes : FunD K "_law_codes" "_law_codes" (defArgs s__law_codes) (defBody s__law_codes) (defScope s__law_codes) [] [] (He.ga K "_law_codes") (fds 14)
  g__law_codes : mg "_law_codes" = some (.ref (He.ga K "_law_codes"))
  f_law : FunD K "law" "law" (defArgs s_law) (defBody s_law) (defScope s_law) [] [] (He.ga K "law") (fds 15)
  g_law : mg "law" = some (.ref (He.ga K "law"))
  f_Astray___init__ : FunD K "__init__" "Astray.__init__" (defArgs s_Astray___init__) (defBody s_Astray___init__) (defScope s_Astray___init__) [] [] (He.ma K (He.ga K "Astray") "__init__") (fds 16)
section
variable {P : Program} {w : World} {K : Fg} {mg : Str → Option Value} {base : Heap} {fds : Nat → FuncData}
theorem b_Run_failed_1_M (a : All K mg fds) : Binds K (fds 1) ["self"] [] :=
  FunD.bindsN a.f_Run_failed fun _ _ _ _ _ _ us hl => match us, hl with | [_], _ => rfl
theorem b_Run_taken_2_M (a : All K mg fds) : Binds K (fds 2) ["self", "is_fork"] [] :=
  FunD.bindsN a.f_Run_taken fun _ _ _ _ _ _ us hl => match us, hl with | [_, _], _ => rfl
theorem b_Run_signed_3_M (a : All K mg fds) : Binds K (fds 3) ["self", "word", "signs"] [] :=
  FunD.bindsN a.f_Run_signed fun _ _ _ _ _ _ us hl => match us, hl with | [_, _, _], _ => rfl
theorem b_Run_led_3_M (a : All K mg fds) : Binds K (fds 4) ["self", "word", "to"] [] :=
  FunD.bindsN a.f_Run_led fun _ _ _ _ _ _ us hl => match us, hl with | [_, _, _], _ => rfl
theorem b_Run___init___4_C (a : All K mg fds) : Binds K (fds 0) ["self", "codes", "text", "at"] [] :=
  FunD.bindsN a.f_Run___init__ fun _ _ _ _ _ _ us hl => match us, hl with | [_, _, _, _], _ => rfl
theorem b_Run_went_on_2_M (a : All K mg fds) : Binds K (fds 5) ["self", "code"] [] :=
  FunD.bindsN a.f_Run_went_on fun _ _ _ _ _ _ us hl => match us, hl with | [_, _], _ => rfl
theorem b__law_failed_1_O (a : All K mg fds) : Binds K (fds 9) ["_law_mill"] [] :=
  FunD.bindsN a.f__law_failed fun _ _ _ _ _ _ us hl => match us, hl with | [_], _ => rfl
theorem b__law_gone_on_2_O (a : All K mg fds) : Binds K (fds 10) ["_law_mill", "_law_code_here"] [] :=
  FunD.bindsN a.f__law_gone_on fun _ _ _ _ _ _ us hl => match us, hl with | [_, _], _ => rfl
theorem b__law_take_2 (a : All K mg fds) : Bd K (fds 8) ["_law_pen_here", "_law_many"] 2 [] (pick [(false, 0), (false, 1)]) :=
  Bd.pick a.f__law_take 2 [] _ rfl rfl (fun _ _ _ _ _ _ us ws l1 l2 => match us, ws, l1, l2 with | [_, _], [], _, _ => rfl)
theorem b__law_code_2 (a : All K mg fds) : Bd K (fds 13) ["_law_pen_here", "_law_many"] 2 [] (pick [(false, 0), (false, 1)]) :=
  Bd.pick a.f__law_code 2 [] _ rfl rfl (fun _ _ _ _ _ _ us ws l1 l2 => match us, ws, l1, l2 with | [_, _], [], _, _ => rfl)
theorem b__law_pen_1 (a : All K mg fds) : Bd K (fds 7) ["_law_script"] 1 [] (pick [(false, 0)]) :=
  Bd.pick a.f__law_pen 1 [] _ rfl rfl (fun _ _ _ _ _ _ us ws l1 l2 => match us, ws, l1, l2 with | [_], [], _, _ => rfl)
theorem b__law_codes_1 (a : All K mg fds) : Bd K (fds 14) ["_law_pen_here"] 1 [] (pick [(false, 0)]) :=
  Bd.pick a.f__law_codes 1 [] _ rfl rfl (fun _ _ _ _ _ _ us ws l1 l2 => match us, ws, l1, l2 with | [_], [], _, _ => rfl)
theorem b__law_run_4 (a : All K mg fds) : Bd K (fds 11) ["_law_some", "_law_writing", "_law_spot", "_law_most"] 4 [] (pick [(false, 0), (false, 1), (false, 2), (false, 3)]) :=
  Bd.pick a.f__law_run 4 [] _ rfl rfl (fun _ _ _ _ _ _ us ws l1 l2 => match us, ws, l1, l2 with | [_, _, _, _], [], _, _ => rfl)
theorem b_run_3 (a : All K mg fds) : Bd K (fds 6) ["codes", "text", "at"] 3 [] (fun xs zs => pick [(false, 0), (false, 1), (false, 2)] xs (zs ++ [.int 0].map R.val)) :=
  Bd.pos a.f_run 3 [] _ (by simp) (.cons (.int _) (.nil)) rfl rfl (fun _ _ _ _ _ _ _ us ws its l1 l2 l3 => match us, ws, its, l1, l2, l3 with | [_, _, _], [], [_], _, _, _ => ⟨_, rfl, rfl⟩)
theorem b_run_0_text_at_codes (a : All K mg fds) : Bd K (fds 6) ["codes", "text", "at"] 0 ["text", "at", "codes"] (fun xs zs => pick [(true, 2), (true, 0), (true, 1)] xs (zs ++ [.int 0].map R.val)) :=
  Bd.pos a.f_run 0 ["text", "at", "codes"] _ (by simp) (.cons (.int _) (.nil)) rfl rfl (fun _ _ _ _ _ _ _ us ws its l1 l2 l3 => match us, ws, its, l1, l2, l3 with | [], [_, _, _], [_], _, _, _ => ⟨_, rfl, rfl⟩)
theorem b__law_heard_run_1_L (a : All K mg fds) : Binds K (fds 12) ["_law_asking"] [] :=
  FunD.bindsN a.f__law_heard_run fun _ _ _ _ _ _ us hl => match us, hl with | [_], _ => rfl
theorem t__law_pen (g : Gb w K mg) (a : All K mg fds) (tb : TbsAt K mg base ["law"]) : FnD P w K mg base (1) (He.ga K "_law_pen") (fds 7) ["_law_script"] (c_lpen) :=
  FnD.imp (fnd_def (k := 0) a.f__law_pen sc__law_pen fun cdv A outer s H E hr hgu => d__law_pen g hr hgu) w_lpen
theorem t__law_take (g : Gb w K mg) (a : All K mg fds) (tb : TbsAt K mg base ["law"]) : FnD P w K mg base (1) (He.ga K "_law_take") (fds 8) ["_law_pen_here", "_law_many"] (c_take) :=
  FnD.imp (fnd_def (k := 0) a.f__law_take sc__law_take fun cdv A outer s H E hr hgu => d__law_take g hr hgu) w_take
theorem t_Run___init__ (g : Gb w K mg) (a : All K mg fds) (tb : TbsAt K mg base ["law"]) : FnD P w K mg base (1) (He.ma K (He.ga K "Run") "__init__") (fds 0) ["self", "codes", "text", "at"] (c_ri) :=
  FnD.imp (fnd_def (k := 0) a.f_Run___init__ sc_Run___init__ fun cdv A outer s H E hr hgu => d_Run___init__ g hr hgu) w_ri
theorem t_Run_failed (g : Gb w K mg) (a : All K mg fds) (tb : TbsAt K mg base ["law"]) : FnD P w K mg base (1) (He.ma K (He.ga K "Run") "failed") (fds 1) ["self"] (c_rf) :=
  FnD.imp (fnd_def (k := 0) a.f_Run_failed sc_Run_failed fun cdv A outer s H E hr hgu => d_Run_failed g hr hgu) w_rf
theorem t_Run_taken (g : Gb w K mg) (a : All K mg fds) (tb : TbsAt K mg base ["law"]) : FnD P w K mg base (1) (He.ma K (He.ga K "Run") "taken") (fds 2) ["self", "is_fork"] (c_rt) :=
  FnD.imp (fnd_def (k := 0) a.f_Run_taken sc_Run_taken fun cdv A outer s H E hr hgu => d_Run_taken g hr hgu) w_rt
theorem tx_Run_taken (g : Gb w K mg) (a : All K mg fds) (tb : TbsAt K mg base ["law"]) : FnX P w K mg base (3) (He.ma K (He.ga K "Run") "taken") (fds 2) ["self", "is_fork"] (cx_rt) :=
  FnX.imp (fnx_def (k := 2) a.f_Run_taken sc_Run_taken fun cdv A outer s H E hr hgu => x_Run_taken g (k_Astray g a.f_Astray___init__ (FunD.bindsN a.f_Astray___init__ fun _ _ _ _ _ _ us hl => match us, hl with | [_, _], _ => rfl)) hr hgu (by omega)) wx_rt
theorem t_Run_signed (g : Gb w K mg) (a : All K mg fds) (tb : TbsAt K mg base ["law"]) : FnD P w K mg base (2) (He.ma K (He.ga K "Run") "signed") (fds 3) ["self", "word", "signs"] (c_rs) :=
  FnD.imp (fnd_def (k := 1) a.f_Run_signed sc_Run_signed fun cdv A outer s H E hr hgu => d_Run_signed g (MethP.of g.m_Run_failed (FnD.mono (t_Run_failed (P := P) (base := base) g a tb) (by omega)) (b_Run_failed_1_M a)) hr hgu) w_rs
theorem t_Run_led (g : Gb w K mg) (a : All K mg fds) (tb : TbsAt K mg base ["law"]) : FnD P w K mg base (2) (He.ma K (He.ga K "Run") "led") (fds 4) ["self", "word", "to"] (c_rl) :=
  FnD.imp (fnd_def (k := 1) a.f_Run_led sc_Run_led fun cdv A outer s H E hr hgu => d_Run_led g (MethP.of g.m_Run_taken (FnD.mono (t_Run_taken (P := P) (base := base) g a tb) (by omega)) (b_Run_taken_2_M a)) hr hgu) w_rl
theorem tx_Run_led (g : Gb w K mg) (a : All K mg fds) (tb : TbsAt K mg base ["law"]) : FnX P w K mg base (4) (He.ma K (He.ga K "Run") "led") (fds 4) ["self", "word", "to"] (cx_rl) :=
  FnX.imp (fnx_def (k := 3) a.f_Run_led sc_Run_led fun cdv A outer s H E hr hgu => x_Run_led g (MethP.of g.m_Run_taken (FnD.mono (t_Run_taken (P := P) (base := base) g a tb) (by omega)) (b_Run_taken_2_M a)) (MethX.of g.m_Run_taken (FnX.mono (tx_Run_taken (P := P) (base := base) g a tb) (by omega)) (b_Run_taken_2_M a)) hr hgu (by omega)) wx_rl
theorem t_Run_went_on (g : Gb w K mg) (a : All K mg fds) (tb : TbsAt K mg base ["law"]) : FnD P w K mg base (3) (He.ma K (He.ga K "Run") "went_on") (fds 5) ["self", "code"] (c_rw) :=
  FnD.imp (fnd_def (k := 2) a.f_Run_went_on sc_Run_went_on fun cdv A outer s H E hr hgu => d_Run_went_on g (MethP.of g.m_Run_signed (FnD.mono (t_Run_signed (P := P) (base := base) g a tb) (by omega)) (b_Run_signed_3_M a)) (MethP.of g.m_Run_led (FnD.mono (t_Run_led (P := P) (base := base) g a tb) (by omega)) (b_Run_led_3_M a)) (MethP.of g.m_Run_taken (FnD.mono (t_Run_taken (P := P) (base := base) g a tb) (by omega)) (b_Run_taken_2_M a)) (MethP.of g.m_Run_failed (FnD.mono (t_Run_failed (P := P) (base := base) g a tb) (by omega)) (b_Run_failed_1_M a)) hr hgu) w_rw
theorem tx_Run_went_on (g : Gb w K mg) (a : All K mg fds) (tb : TbsAt K mg base ["law"]) : FnX P w K mg base (5) (He.ma K (He.ga K "Run") "went_on") (fds 5) ["self", "code"] (cx_rw) :=
  FnX.imp (fnx_def (k := 4) a.f_Run_went_on sc_Run_went_on fun cdv A outer s H E hr hgu => x_Run_went_on g (MethP.of g.m_Run_signed (FnD.mono (t_Run_signed (P := P) (base := base) g a tb) (by omega)) (b_Run_signed_3_M a)) (MethP.of g.m_Run_led (FnD.mono (t_Run_led (P := P) (base := base) g a tb) (by omega)) (b_Run_led_3_M a)) (MethP.of g.m_Run_taken (FnD.mono (t_Run_taken (P := P) (base := base) g a tb) (by omega)) (b_Run_taken_2_M a)) (MethP.of g.m_Run_failed (FnD.mono (t_Run_failed (P := P) (base := base) g a tb) (by omega)) (b_Run_failed_1_M a)) (MethX.of g.m_Run_led (FnX.mono (tx_Run_led (P := P) (base := base) g a tb) (by omega)) (b_Run_led_3_M a)) (MethX.of g.m_Run_taken (FnX.mono (tx_Run_taken (P := P) (base := base) g a tb) (by omega)) (b_Run_taken_2_M a)) hr hgu (by omega)) wx_rw
theorem t_run (g : Gb w K mg) (a : All K mg fds) (tb : TbsAt K mg base ["law"]) : FnD P w K mg base (4) (He.ga K "run") (fds 6) ["codes", "text", "at"] (c_run) :=
  FnD.imp (fnd_def (k := 3) a.f_run sc_run fun cdv A outer s H E hr hgu => d_run g (MakeP.of (j := 1) (by omega) g.gl_Run g.i_Run (t_Run___init__ (P := P) (base := base) g a tb) (b_Run___init___4_C a)) (MethP.of g.m_Run_went_on (FnD.mono (t_Run_went_on (P := P) (base := base) g a tb) (by omega)) (b_Run_went_on_2_M a)) hr hgu) w_run
theorem tx_run (g : Gb w K mg) (a : All K mg fds) (tb : TbsAt K mg base ["law"]) : FnX P w K mg base (6) (He.ga K "run") (fds 6) ["codes", "text", "at"] (cx_run) :=
  FnX.imp (fnx_def (k := 5) a.f_run sc_run fun cdv A outer s H E hr hgu => x_run g (MakeP.of (j := 1) (by omega) g.gl_Run g.i_Run (t_Run___init__ (P := P) (base := base) g a tb) (b_Run___init___4_C a)) (MethP.of g.m_Run_went_on (FnD.mono (t_Run_went_on (P := P) (base := base) g a tb) (by omega)) (b_Run_went_on_2_M a)) (MethX.of g.m_Run_went_on (FnX.mono (tx_Run_went_on (P := P) (base := base) g a tb) (by omega)) (b_Run_went_on_2_M a)) (k_Astray g a.f_Astray___init__ (FunD.bindsN a.f_Astray___init__ fun _ _ _ _ _ _ us hl => match us, hl with | [_, _], _ => rfl)) hr hgu (by omega)) wx_run
theorem t__law_failed (g : Gb w K mg) (a : All K mg fds) (tb : TbsAt K mg base ["law"]) : FnD P w K mg base (1) (He.ga K "_law_failed") (fds 9) ["_law_mill"] (c_lf) :=
  FnD.imp (fnd_def (k := 0) a.f__law_failed sc__law_failed fun cdv A outer s H E hr hgu => d__law_failed g hr hgu) w_lf
theorem t__law_gone_on (g : Gb w K mg) (a : All K mg fds) (tb : TbsAt K mg base ["law"]) : FnD P w K mg base (2) (He.ga K "_law_gone_on") (fds 10) ["_law_mill", "_law_code_here"] (c_lg) :=
  FnD.imp (fnd_def (k := 1) a.f__law_gone_on sc__law_gone_on fun cdv A outer s H E hr hgu => d__law_gone_on g (DefP.of a.g__law_failed a.f__law_failed.kp (FnD.mono (t__law_failed (P := P) (base := base) g a tb) (by omega)) (b__law_failed_1_O a)) hr hgu) w_lg
theorem t__law_run (g : Gb w K mg) (a : All K mg fds) (tb : TbsAt K mg base ["law"]) : FnD P w K mg base (3) (He.ga K "_law_run") (fds 11) ["_law_some", "_law_writing", "_law_spot", "_law_most"] (c_lr) :=
  FnD.imp (fnd_def (k := 2) a.f__law_run sc__law_run fun cdv A outer s H E hr hgu => d__law_run g (DefP.of a.g__law_gone_on a.f__law_gone_on.kp (FnD.mono (t__law_gone_on (P := P) (base := base) g a tb) (by omega)) (b__law_gone_on_2_O a)) hr hgu) w_lr
theorem tl__law_heard_run (g : Gb w K mg) (a : All K mg fds) (tb : TbsAt K mg base ["law"]) : FnL P w K mg base (1) (He.ga K "_law_heard_run") (fds 12) ["_law_asking"] (c_heard) :=
  FnL.imp (fnl_def (k := 0) a.f__law_heard_run sc__law_heard_run fun L out cdv A outer s H E hr hgu act => d__law_heard_run g act hr hgu) w_heard
theorem t__law_code (g : Gb w K mg) (a : All K mg fds) (tb : TbsAt K mg base ["law"]) : FnD P w K mg base (2) (He.ga K "_law_code") (fds 13) ["_law_pen_here", "_law_many"] (c_code) :=
  FnD.imp (fnd_def (k := 1) a.f__law_code sc__law_code fun cdv A outer s H E hr hgu => d__law_code g (Def.of a.g__law_take a.f__law_take.kp (FnD.mono (t__law_take (P := P) (base := base) g a tb) (by omega)) (b__law_take_2 a)) hr hgu) w_code
theorem t__law_codes (g : Gb w K mg) (a : All K mg fds) (tb : TbsAt K mg base ["law"]) : FnD P w K mg base (3) (He.ga K "_law_codes") (fds 14) ["_law_pen_here"] (c_codes) :=
  FnD.imp (fnd_def (k := 2) a.f__law_codes sc__law_codes fun cdv A outer s H E hr hgu => d__law_codes g (Def.of a.g__law_take a.f__law_take.kp (FnD.mono (t__law_take (P := P) (base := base) g a tb) (by omega)) (b__law_take_2 a)) (Def.of a.g__law_code a.f__law_code.kp (FnD.mono (t__law_code (P := P) (base := base) g a tb) (by omega)) (b__law_code_2 a)) hr hgu) w_codes
theorem t_law (g : Gb w K mg) (a : All K mg fds) (tb : TbsAt K mg base ["law"]) : FnD P w K mg base (9) (He.ga K "law") (fds 15) ["_law_script"] ((c_law (tbA K "law"))) :=
  FnD.imp (fnd_defM (k := 6 + 2) tb (by simp) a.f_law sc_law fun cdv A outer s H E hr hgu lm => d_law (k := 6) g (Def.of a.g__law_pen a.f__law_pen.kp (FnD.mono (t__law_pen (P := P) (base := base) g a tb) (by omega)) (b__law_pen_1 a)) (Def.of a.g__law_codes a.f__law_codes.kp (FnD.mono (t__law_codes (P := P) (base := base) g a tb) (by omega)) (b__law_codes_1 a)) (Def.of a.g__law_take a.f__law_take.kp (FnD.mono (t__law_take (P := P) (base := base) g a tb) (by omega)) (b__law_take_2 a)) (Def.of a.g__law_run a.f__law_run.kp (FnD.mono (t__law_run (P := P) (base := base) g a tb) (by omega)) (b__law_run_4 a)) (Def.of a.g_run a.f_run.kp (FnD.mono (t_run (P := P) (base := base) g a tb) (by omega)) (b_run_3 a)) (Def.of a.g_run a.f_run.kp (FnD.mono (t_run (P := P) (base := base) g a tb) (by omega)) (b_run_0_text_at_codes a)) (DefX.of a.g_run a.f_run.kp (FnX.mono (tx_run (P := P) (base := base) g a tb) (by omega)) (b_run_3 a)) (DefX.of a.g_run a.f_run.kp (FnX.mono (tx_run (P := P) (base := base) g a tb) (by omega)) (b_run_0_text_at_codes a)) (LamD.of a.g__law_heard_run a.f__law_heard_run.kp (FnL.mono (tl__law_heard_run (P := P) (base := base) g a tb) (by omega)) (b__law_heard_run_1_L a)) lm hr hgu) (w_law (tbA K "law"))
end
theorem facts {P : Program} {w : World} {K0 : Fg} {h : Heap} {mg : Str → Option Value} {f : Addr} (X0 : K0.In h) (G : h.Ns mainGlobals mg) (hfa : mg ("law" : Str) = some (.ref f)) (cT : SaysT true fa fn cs ts xs tls w K0) :
    ∃ (K : Fg) (fd : FuncData), K.In h ∧ TabsH K h tls ∧ (∀ (s : Shared) (v : Value), BindsTo s fd ⟨[v], []⟩ [("_law_script", v)]) ∧ ∀ base : Heap, K.In base → base.Ns mainGlobals mg → TbsAt K mg base (tls.map (·.1)) → FnD P w K mg base 9 f fd ["_law_script"] ((c_law (tbA K "law"))) := by
  have TH := cT.t X0
  have X : (dropT K0 tls).In h := dropT_in X0
  have c0 := cT.y
  generalize dropT K0 tls = K at *
  have c := c0.x
  obtain ⟨fd0, F0⟩ := c.defs.def_ 0 rfl
  obtain ⟨fd1, F1⟩ := c.defs.def_ 1 rfl
  obtain ⟨fd2, F2⟩ := c.defs.def_ 2 rfl
  obtain ⟨fd3, F3⟩ := c.defs.def_ 3 rfl
  obtain ⟨fd4, F4⟩ := c.defs.def_ 4 rfl
  obtain ⟨fd5, F5⟩ := c.defs.def_ 5 rfl
  obtain ⟨fd6, F6⟩ := c.defs.def_ 6 rfl
  obtain ⟨fd7, F7⟩ := c.defs.def_ 7 rfl
  obtain ⟨fd8, F8⟩ := c.defs.def_ 8 rfl
  obtain ⟨fd9, F9⟩ := c.defs.def_ 9 rfl
  obtain ⟨fd10, F10⟩ := c.defs.def_ 10 rfl
  obtain ⟨fd11, F11⟩ := c.defs.def_ 11 rfl
  obtain ⟨fd12, F12⟩ := c.defs.def_ 12 rfl
  obtain ⟨fd13, F13⟩ := c.defs.def_ 13 rfl
  obtain ⟨fd14, F14⟩ := c.defs.def_ 14 rfl
  obtain ⟨fd15, F15⟩ := c.defs.def_ 15 rfl
  obtain ⟨fd16, F16⟩ := c.defs.def_ 16 rfl
  have a : All K mg (fun i => [fd0, fd1, fd2, fd3, fd4, fd5, fd6, fd7, fd8, fd9, fd10, fd11, fd12, fd13, fd14, fd15, fd16].getD i fd0) := ⟨F0, F1, F2, F3, F4, F5, F6, He.glo_ok X G (c.defs.fact 0 rfl), F7, He.glo_ok X G (c.defs.fact 1 rfl), F8, He.glo_ok X G (c.defs.fact 2 rfl), F9, He.glo_ok X G (c.defs.fact 3 rfl), F10, He.glo_ok X G (c.defs.fact 4 rfl), F11, He.glo_ok X G (c.defs.fact 5 rfl), F12, He.glo_ok X G (c.defs.fact 6 rfl), F13, He.glo_ok X G (c.defs.fact 7 rfl), F14, He.glo_ok X G (c.defs.fact 8 rfl), F15, He.glo_ok X G (c.defs.fact 9 rfl), F16⟩
  have g : Gb w K mg := ⟨He.free_ok X G (c.defs.fact 10 rfl), He.free_ok X G (c.defs.fact 11 rfl), He.free_ok X G (c.defs.fact 12 rfl), He.free_ok X G (c.defs.fact 13 rfl), He.free_ok X G (c.defs.fact 14 rfl), He.free_ok X G (c.defs.fact 15 rfl), He.free_ok X G (c.defs.fact 16 rfl), He.free_ok X G (c.defs.fact 17 rfl), He.free_ok X G (c.defs.fact 18 rfl), He.glo_ok X G (c.defs.fact 33 rfl), He.glo_ok X G (c.defs.fact 34 rfl), He.glo_ok X G (c.defs.fact 35 rfl), He.glo_ok X G (c.defs.fact 36 rfl), He.glo_ok X G (c.defs.fact 37 rfl), He.glo_ok X G (c.defs.fact 38 rfl), He.glo_ok X G (c.defs.fact 39 rfl), c0.f 0, c0.f 1, c0.f 2, c0.f 3, c0.f 4, c0.f 5, c0.f 6, c0.f 7, He.cls_ok (c.defs.fact 19 rfl), He.glo_ok X G (c.defs.fact 20 rfl), He.noat_ok (c.defs.fact 21 rfl), He.noat_ok (c.defs.fact 22 rfl), He.noat_ok (c.defs.fact 23 rfl), He.noat_ok (c.defs.fact 24 rfl), He.noat_ok (c.defs.fact 25 rfl), He.noat_ok (c.defs.fact 26 rfl), He.mkr_ok (c.defs.fact 27 rfl), He.meth_ok (c.defs.fact 28 rfl), He.meth_ok (c.defs.fact 29 rfl), He.meth_ok (c.defs.fact 30 rfl), He.meth_ok (c.defs.fact 31 rfl), He.meth_ok (c.defs.fact 32 rfl)⟩
  have e := hfa.symm.trans a.g_law
  cases e
  have b := FunD.bindsA (ps := ["_law_script"]) a.f_law fun _ _ _ _ _ _ us hl => match us, hl with | [_], _ => rfl
  exact ⟨K, _, X, TH, fun s v => b s [v] rfl, fun base _ _ tb => t_law g a tb⟩
end L51
open PySem PySem.W PySem.Calls PyProof.Rows
theorem PySem.Challenge.cw_smallreaders_k51_machines_astray_holds : PySem.Challenge.rw_smallreaders_k51_machines_astray.Holds := by
  w_on; o_law
  refine HandSHeadRun.head_any (r := OpenLaw.row PySem.Challenge.rw_smallreaders_k51_machines_astray) (q := view (OpenLaw.row PySem.Challenge.rw_smallreaders_k51_machines_astray).prog [20]) (H := L51H.hk) (ob := L51H.ob) (M := 6000) (loose := L51H.loose) (d := HandSHeadRun.topDef (OpenLaw.row PySem.Challenge.rw_smallreaders_k51_machines_astray).prog 20) (kwd := []) L51H.ob_eq
    (by kernel_rfl) (fun s => by kernel_rfl) L51H.run (by kernel_rfl) (by kernel_rfl) (by kernel_rfl) (by rfl) (by first | assumption | decide +kernel) (by decide +kernel) ⟨rfl, rfl, rfl, rfl, rfl, by decide +kernel⟩ ?hw ?hc
  case hw => w_witness2
  case hc =>
    refine DL.walk_dT (ls := L51H.tls) (l := PySem.Challenge.rw_smallreaders_k51_machines_astray) (n := 63) (k := 9) (x := "_law_script") rfl (by decide) (by kernel_rfl) ⟨rfl, by decide, by decide⟩ ?F
    intro w mg fa h Y G hmg0
    obtain ⟨K0, KX, c⟩ := Y
    have hmg : mg ("law" : PySem.Str) = some (.ref fa) := by
      have e : (HandSHeadRun.topDef (OpenLaw.row PySem.Challenge.rw_smallreaders_k51_machines_astray).prog 20).name = ("law" : PySem.Str) := by kernel_rfl
      rw [← e]
      exact hmg0
    obtain ⟨K, fd, KX2, TH, hb, hF⟩ := L51.facts (P := (PySem.Challenge.rw_smallreaders_k51_machines_astray).prog) (w := w) KX G hmg c
    exact ⟨K, fd, _, KX2, TH, hb, fun ns h => L51.law_ok _ ns h, hF⟩
